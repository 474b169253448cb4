import PyProof.Rows.All
import Wide.All
import OpenK.AllK
import Wide.FinOn
import HandS.ForMost
import HandS.ForExc
import HandS.Lambda
import HandS.TupAny
import HandS.TupMul
import HandS.Wide
import HandS.WideBits
import HandS.Walk
import HandS.RevRange
import HandS.IsInst
import HandS.More
import HandS.SortInts
import HandS.Style
import HandS.EndBits
import KE.GoesNew
import KE.GoesMore
import HandS.ExcIs
import HandS.ExcOwn
import HandS.Nested
import HandS.MakeKw
import HandS.ClsMeth
import KE.KMinKey
import KE.KNestM
import HandS.Codes
import HandS.HeadWalk
import HandS.EndTab
import HandS.SetFor
import HandS.NoneIn
import PyProof.ReprRoads
import HandS.FStr
import HandS.StrMore
import PyProof.StrBlock2
import HandS.Flt
import HandS.Flow
import HandS.TryOnly
import HandS.ReplaceDef
import HandS.ReplaceLit
import HandS.Text
import PyProof.Rows.StrStrike
import PySem.Challenge.RW_pointpress_k63_hexed
set_option Elab.async false
set_option linter.all false
set_option maxRecDepth 100000
set_option maxHeartbeats 4000000
/-! DLa: a layer of plain data over the hand layer: D (Python's data), R (what a step gives), representation in the abstract heap, the state relation. -/
namespace DL
open PySem L2

/-- Python's data, without addresses -/
inductive D where
  | non
  | bl (b : Bool)
  | int (i : Int)
  | str (x : Str)
  | tup (ds : List D)
  | lst (ds : List D)
  | ob (C : Addr) (ns : List Str) (ds : List D)
  | cl (a : Addr)
  | ex (C : Addr) (ds : List D)

/-- a raised exception: its class, what its fields hold -/
structure Ex where
  cls : Addr
  ds : List D

inductive R (α : Type) where
  | ok (a : α)
  | exc (x : Ex)
  | bad
def R.bind {α β : Type} : R α → (α → R β) → R β
  | .ok a, f => f a
  | .exc x, _ => .exc x
  | .bad, _ => .bad
instance : Monad R where
  pure := R.ok
  bind := R.bind
@[simp] theorem bind_ok {α β : Type} (a : α) (f : α → R β) : (R.ok a >>= f) = f a := rfl
@[simp] theorem bind_exc {α β : Type} (x : Ex) (f : α → R β) : ((R.exc x : R α) >>= f) = R.exc x := rfl
@[simp] theorem bind_bad {α β : Type} (f : α → R β) : ((R.bad : R α) >>= f) = R.bad := rfl
@[simp] theorem pure_ok {α : Type} (a : α) : (pure a : R α) = R.ok a := rfl

/-! ### a heap grows: all stays but the tables of code objects, and those stay tables -/
/-- the tables of code objects that a law's text may write, with the name of what they hold -/
class Tbs where
  T : List (Addr × Str)
def notTbl : HO → Bool
  | .tbl _ => false
  | _ => true
/-- what may be owned: lists, instances and their dicts -/
def ownK : HO → Bool
  | .lst _ => true
  | .ins _ _ _ => true
  | .own _ => true
  | _ => false
theorem notTbl_own {o : HO} (h : ownK o = true) : notTbl o = true := by cases o <;> first | rfl | cases h
theorem notTbl_of {o : HO} (h : notTbl o = true) : ∀ ps, o ≠ .tbl ps := fun ps e => by
  subst e
  cases h
structure Same (H H' : Hp) : Prop where
  keep : ∀ b o, H b = some o → notTbl o = true → H' b = some o
  there : ∀ b, H' b = none → H b = none
theorem Same.at_ {H H' : Hp} {b : Addr} {o : HO} (e : Same H H') (h : H b = some o) (n : notTbl o = true := by rfl) : H' b = some o := e.keep b o h n
theorem Same.free {H H' : Hp} (e : Same H H') {l : Addr} (h : H' l = none) : H l = none := e.there l h
theorem Same.ex {H H' : Hp} {a : Addr} {o : HO} (e : Same H H') (h : H a = some o) : ∃ o', H' a = some o' := by
  cases q : H' a with
  | none => rw [e.there a q] at h; cases h
  | some o' => exact ⟨o', rfl⟩
theorem Same.of {H H' : Hp} (h : ∀ b o, H b = some o → H' b = some o) : Same H H' := ⟨fun b o q _ => h b o q, fun b q => by
  cases z : H b with
  | none => rfl
  | some o => rw [h b o z] at q; cases q⟩
theorem Same.refl (H : Hp) : Same H H := .of fun _ _ h => h
theorem Same.trans {H H1 H2 : Hp} (a : Same H H1) (b : Same H1 H2) : Same H H2 := ⟨fun c o h n => b.keep c o (a.keep c o h n) n, fun c h => a.there c (b.there c h)⟩
theorem Same.seq {K : PySem.W.Frag} {H H' : Hp} {a : Addr} {xs : List V} (e : Same H H') (h : SqL K H a xs) : SqL K H' a xs := by
  rcases h with (h | ⟨o, h⟩) | h
  · exact .inl (.inl (e.at_ h))
  · exact .inl (.inr ⟨o, e.at_ h⟩)
  · exact .inr h
abbrev TbsOk [Tbs] (H : Hp) : Prop := LamX.Tabs Tbs.T H
theorem TbsOk.ext [Tbs] {H H' : Hp} (t : TbsOk H) (e : ∀ b o, H b = some o → H' b = some o) : TbsOk H' := LamX.Tabs.ext t e
/-- a list is written -/
theorem TbsOk.upd [Tbs] {H : Hp} {a : Addr} {o0 o : HO} (t : TbsOk H) (h : H a = some o0 ∧ ownK o0 = true) : TbsOk (upd H a o) := fun p hp => by
  obtain ⟨ps, h1, h2, h3⟩ := t p hp
  have n1 : p.1 ≠ a := ne_of h1 h.1 (fun z => by subst z; cases h.2)
  refine ⟨ps, by rw [upd_ne n1]; exact h1, h2, fun pos cv hc => ?_⟩
  obtain ⟨c, e1, e2⟩ := h3 pos cv hc
  have n2 : c ≠ a := ne_of e2 h.1 (fun z => by subst z; unfold LamX.CodeO at h; cases h.2)
  exact ⟨c, e1, by rw [upd_ne n2]; exact e2⟩
/-- what is free may be laid -/
theorem TbsOk.new [Tbs] {H : Hp} {a : Addr} {o : HO} (t : TbsOk H) (h : H a = none) : TbsOk (L2.upd H a o) := t.ext fun b u q => by rw [upd_ne (ne_of_none q h)]; exact q

/-! ### frozen data: it stands in F -/
/-- an error that was caught and kept: its class, its dict -/
def exO (a C : Addr) (dx : Option Addr) : HO := .ext fun h => ∃ oe vs, h.get? a = some oe ∧ Zc (.ref C) dx oe ∧ oe.data = .fields vs
mutual
inductive Fz (K : PySem.W.Frag) (F : Hp) : V → D → Prop
  | non : Fz K F .non .non
  | bl (b : Bool) : Fz K F (.bl b) (.bl b)
  | int (i : Int) : Fz K F (.int i) (.int i)
  | str (x : Str) : Fz K F (.str x) (.str x)
  | tup {a : Addr} {vs : List V} {ds : List D} : SqT K F a vs → FzL K F vs ds → Fz K F (.ref a) (.tup ds)
  | lst {a : Addr} {vs : List V} {ds : List D} : SqL K F a vs → FzL K F vs ds → Fz K F (.ref a) (.lst ds)
  | ob {a C dx : Addr} {fs : List (Str × V)} {ds : List D} : F a = some (.ins C dx fs) → F dx = some (.own a) → FzL K F (fs.map (·.2)) ds → Fz K F (.ref a) (.ob C (fs.map (·.1)) ds)
  | cl (a : Addr) : Fz K F (.ref a) (.cl a)
  | ex {a C : Addr} : F a = some (exO a C none) → Fz K F (.ref a) (.ex C [])
  | exr {a C dx : Addr} {v : V} {d : D} : F a = some (exO a C (some dx)) → F dx = some (.xd [("row", v)]) → Fz K F v d → Fz K F (.ref a) (.ex C [d])
inductive FzL (K : PySem.W.Frag) (F : Hp) : List V → List D → Prop
  | nil : FzL K F [] []
  | cons {v : V} {d : D} {vs : List V} {ds : List D} : Fz K F v d → FzL K F vs ds → FzL K F (v :: vs) (d :: ds)
end
theorem Same.sqt {K : PySem.W.Frag} {H H' : Hp} {a : Addr} {xs : List V} (e : Same H H') (h : SqT K H a xs) : SqT K H' a xs := by
  rcases h with (h | ⟨o, h⟩) | h
  · exact .inl (.inl (e.at_ h))
  · exact .inl (.inr ⟨o, e.at_ h⟩)
  · exact .inr h
mutual
theorem Fz.mono {K : PySem.W.Frag} {F F' : Hp} (e : Same F F') : ∀ {v : V} {d : D}, Fz K F v d → Fz K F' v d
  | _, _, .non => .non
  | _, _, .bl b => .bl b
  | _, _, .int i => .int i
  | _, _, .str x => .str x
  | _, _, .tup h hs => .tup (Same.sqt e h) (FzL.mono e hs)
  | _, _, .lst h hs => .lst (e.seq h) (FzL.mono e hs)
  | _, _, .ob h1 h2 hs => .ob (e.at_ h1) (e.at_ h2) (FzL.mono e hs)
  | _, _, .cl a => .cl a
  | _, _, .ex h => .ex (e.at_ h)
  | _, _, .exr h1 h2 h3 => .exr (e.at_ h1) (e.at_ h2) (Fz.mono e h3)
theorem FzL.mono {K : PySem.W.Frag} {F F' : Hp} (e : Same F F') : ∀ {vs : List V} {ds : List D}, FzL K F vs ds → FzL K F' vs ds
  | _, _, .nil => .nil
  | _, _, .cons h hs => .cons (Fz.mono e h) (FzL.mono e hs)
end
section
variable {K : PySem.W.Frag} {F : Hp}
theorem FzL.length : ∀ {vs : List V} {ds : List D}, FzL K F vs ds → vs.length = ds.length
  | _, _, .nil => rfl
  | _, _, .cons _ hs => by rw [List.length_cons, List.length_cons, FzL.length hs]
theorem FzL.get : ∀ {vs : List V} {ds : List D} {i : Nat} {d : D}, FzL K F vs ds → ds[i]? = some d → ∃ v, vs[i]? = some v ∧ Fz K F v d
  | _, _, i, d, .nil, e => by simp at e
  | _, _, 0, d, .cons h _, e => by simp at e; subst e; exact ⟨_, rfl, h⟩
  | _, _, i + 1, d, .cons _ hs, e => by
    obtain ⟨v, h1, h2⟩ := FzL.get (i := i) (d := d) hs (by simpa using e)
    exact ⟨v, by simpa using h1, h2⟩
theorem FzL.getV : ∀ {vs : List V} {ds : List D} {i : Nat} {v : V}, FzL K F vs ds → vs[i]? = some v → ∃ d, ds[i]? = some d ∧ Fz K F v d
  | _, _, i, d, .nil, e => by simp at e
  | _, _, 0, d, .cons h _, e => by simp at e; subst e; exact ⟨_, rfl, h⟩
  | _, _, i + 1, d, .cons _ hs, e => by
    obtain ⟨v, h1, h2⟩ := FzL.getV (i := i) (v := d) hs (by simpa using e)
    exact ⟨v, by simpa using h1, h2⟩
theorem FzL.append : ∀ {vs ws : List V} {ds es : List D}, FzL K F vs ds → FzL K F ws es → FzL K F (vs ++ ws) (ds ++ es)
  | _, _, _, _, .nil, h => h
  | _, _, _, _, .cons h hs, h' => .cons h (FzL.append hs h')
theorem FzL.take : ∀ {vs : List V} {ds : List D} (n : Nat), FzL K F vs ds → FzL K F (vs.take n) (ds.take n)
  | _, _, 0, _ => by simp only [List.take_zero]; exact .nil
  | _, _, _ + 1, .nil => .nil
  | _, _, n + 1, .cons h hs => .cons h (FzL.take n hs)
theorem FzL.drop : ∀ {vs : List V} {ds : List D} (n : Nat), FzL K F vs ds → FzL K F (vs.drop n) (ds.drop n)
  | _, _, 0, h => h
  | _, _, _ + 1, .nil => .nil
  | _, _, n + 1, .cons _ hs => FzL.drop n hs
theorem FzL.set : ∀ {vs : List V} {ds : List D} {v : V} {d : D} (i : Nat), FzL K F vs ds → Fz K F v d → FzL K F (vs.set i v) (ds.set i d)
  | _, _, _, _, _, .nil, _ => .nil
  | _, _, _, _, 0, .cons _ hs, h => .cons h hs
  | _, _, _, _, i + 1, .cons h' hs, h => .cons h' (FzL.set i hs h)
theorem FzL.reverse {vs : List V} {ds : List D} (h : FzL K F vs ds) : FzL K F vs.reverse ds.reverse := by
  induction vs generalizing ds with
  | nil => cases h; exact .nil
  | cons v vs ih =>
    cases h with
    | cons h1 h2 =>
      rw [List.reverse_cons, List.reverse_cons]
      exact (ih h2).append (.cons h1 .nil)
theorem FzL.rep {vs : List V} {ds : List D} (h : FzL K F vs ds) : ∀ k : Nat, FzL K F (List.replicate k vs).flatten (List.replicate k ds).flatten
  | 0 => .nil
  | k + 1 => by
    rw [List.replicate_succ, List.replicate_succ, List.flatten_cons, List.flatten_cons]
    exact h.append (FzL.rep h k)
theorem FzL.ints : ∀ (ns : List Int), FzL K F (ns.map V.int) (ns.map D.int)
  | [] => .nil
  | n :: ns => .cons (.int n) (FzL.ints ns)
end

/-! ### borrowed data: the spine stands in H, frozen parts in F -/
mutual
inductive Bo (K : PySem.W.Frag) (H F : Hp) : V → D → Prop
  | fz {v : V} {d : D} : Fz K F v d → Bo K H F v d
  | lst {a : Addr} {vs : List V} {ds : List D} : SqL K H a vs → BoL K H F vs ds → Bo K H F (.ref a) (.lst ds)
  | ob {a C dx : Addr} {fs : List (Str × V)} {ds : List D} : H a = some (.ins C dx fs) → H dx = some (.own a) → BoL K H F (fs.map (·.2)) ds → Bo K H F (.ref a) (.ob C (fs.map (·.1)) ds)
inductive BoL (K : PySem.W.Frag) (H F : Hp) : List V → List D → Prop
  | nil : BoL K H F [] []
  | cons {v : V} {d : D} {vs : List V} {ds : List D} : Bo K H F v d → BoL K H F vs ds → BoL K H F (v :: vs) (d :: ds)
end
mutual
theorem Bo.mono {K : PySem.W.Frag} {H H' F F' : Hp} (eH : Same H H') (e : Same F F') : ∀ {v : V} {d : D}, Bo K H F v d → Bo K H' F' v d
  | _, _, .fz h => .fz (h.mono e)
  | _, _, .lst h hs => .lst (eH.seq h) (BoL.mono eH e hs)
  | _, _, .ob h1 h2 hs => .ob (eH.at_ h1) (eH.at_ h2) (BoL.mono eH e hs)
theorem BoL.mono {K : PySem.W.Frag} {H H' F F' : Hp} (eH : Same H H') (e : Same F F') : ∀ {vs : List V} {ds : List D}, BoL K H F vs ds → BoL K H' F' vs ds
  | _, _, .nil => .nil
  | _, _, .cons h hs => .cons (Bo.mono eH e h) (BoL.mono eH e hs)
end
section
variable {K : PySem.W.Frag} {H F : Hp}
theorem BoL.length : ∀ {vs : List V} {ds : List D}, BoL K H F vs ds → vs.length = ds.length
  | _, _, .nil => rfl
  | _, _, .cons _ hs => by rw [List.length_cons, List.length_cons, BoL.length hs]
theorem BoL.get : ∀ {vs : List V} {ds : List D} {i : Nat} {d : D}, BoL K H F vs ds → ds[i]? = some d → ∃ v, vs[i]? = some v ∧ Bo K H F v d
  | _, _, i, d, .nil, e => by simp at e
  | _, _, 0, d, .cons h _, e => by simp at e; subst e; exact ⟨_, rfl, h⟩
  | _, _, i + 1, d, .cons _ hs, e => by
    obtain ⟨v, h1, h2⟩ := BoL.get (i := i) (d := d) hs (by simpa using e)
    exact ⟨v, by simpa using h1, h2⟩
theorem FzL.bo : ∀ {vs : List V} {ds : List D}, FzL K F vs ds → BoL K H F vs ds
  | _, _, .nil => .nil
  | _, _, .cons h hs => .cons (.fz h) (FzL.bo hs)
/-- no list, no object: then borrowed is frozen -/
def nlB : D → Bool
  | .lst _ => false
  | .ob _ _ _ => false
  | _ => true
theorem Bo.fix {v : V} {d : D} (h : Bo K H F v d) (n : nlB d = true) : Fz K F v d := by
  cases h with
  | fz h => exact h
  | lst _ _ => exact absurd n (by simp [nlB])
  | ob _ _ _ => exact absurd n (by simp [nlB])
theorem BoL.fix : ∀ {vs : List V} {ds : List D}, BoL K H F vs ds → ds.all nlB = true → FzL K F vs ds
  | _, _, .nil, _ => .nil
  | _, _, .cons h hs, n => by
    simp only [List.all_cons, Bool.and_eq_true] at n
    exact .cons (h.fix n.1) (BoL.fix hs n.2)
/-- what is borrowed and a list, a tuple -/
theorem Bo.listOf {v : V} {ds : List D} (h : Bo K H F v (.lst ds)) (e : Same F H) : ∃ a vs, v = .ref a ∧ SqL K H a vs ∧ BoL K H F vs ds := by
  cases h with
  | fz h =>
    cases h with
    | lst h hs => exact ⟨_, _, rfl, e.seq h, hs.bo⟩
  | lst h hs => exact ⟨_, _, rfl, h, hs⟩
theorem Bo.tupOf {v : V} {ds : List D} (h : Bo K H F v (.tup ds)) : ∃ a vs, v = .ref a ∧ SqT K F a vs ∧ FzL K F vs ds := by
  cases h with
  | fz h =>
    cases h with
    | tup h hs => exact ⟨_, _, rfl, h, hs⟩
theorem Fz.listOf {v : V} {ds : List D} (h : Fz K F v (.lst ds)) : ∃ a vs, v = .ref a ∧ SqL K F a vs ∧ FzL K F vs ds := by
  cases h with
  | lst h hs => exact ⟨_, _, rfl, h, hs⟩
theorem Fz.tupOf {v : V} {ds : List D} (h : Fz K F v (.tup ds)) : ∃ a vs, v = .ref a ∧ SqT K F a vs ∧ FzL K F vs ds := by
  cases h with
  | tup h hs => exact ⟨_, _, rfl, h, hs⟩
theorem Bo.intOf {v : V} {i : Int} (h : Bo K H F v (.int i)) : v = .int i := by cases h with | fz h => cases h; rfl
theorem Bo.blOf {v : V} {i : Bool} (h : Bo K H F v (.bl i)) : v = .bl i := by cases h with | fz h => cases h; rfl
theorem Bo.strOf {v : V} {i : Str} (h : Bo K H F v (.str i)) : v = .str i := by cases h with | fz h => cases h; rfl
theorem Bo.nonOf {v : V} (h : Bo K H F v .non) : v = .non := by cases h with | fz h => cases h; rfl
theorem BoL.intsOf : ∀ {ns : List Int} {vs : List V}, BoL K H F vs (ns.map D.int) → vs = ns.map V.int
  | [], _, .nil => rfl
  | n :: ns, _, .cons h hs => by rw [h.intOf, BoL.intsOf hs]; rfl
end

/-! ### modes, what is owned -/
/-- un: no value; fr: frozen; bo: borrowed from the entry's heap; pk: borrowed from the heap as it stands; ow m: an own list (or object) of such, to be changed; pin m v: m, and it is v; io r m v: for a def's return: r, and what m says of v as it is left -/
inductive M where
  | un
  | fr
  | bo
  | pk
  | ow (m : M)
  | pin (m : M) (v : V)
  | io (r m : M) (v : V)
/-- values, data and the addresses that are owned, side by side -/
def Al (r : V → D → List Addr → Prop) : List V → List D → List Addr → Prop
  | [], [], fp => fp = []
  | v :: vs, d :: ds, fp => ∃ f1 f2, fp = f1 ++ f2 ∧ r v d f1 ∧ Al r vs ds f2
  | _, _, _ => False
def Rv (K : PySem.W.Frag) (H0 F H : Hp) : M → V → D → List Addr → Prop
  | .un, _, _, _ => False
  | .fr, v, d, fp => Fz K F v d ∧ fp = []
  | .bo, v, d, fp => Bo K H0 F v d ∧ fp = []
  | .pk, v, d, fp => Bo K H F v d ∧ fp = []
  | .ow m, v, .lst ds, fp => ∃ a vs fps, v = .ref a ∧ H a = some (.lst vs) ∧ Al (Rv K H0 F H m) vs ds fps ∧ fp = a :: fps
  | .ow m, v, .ob C ns ds, fp => ∃ a dx fs fps, v = .ref a ∧ H a = some (.ins C dx fs) ∧ H dx = some (.own a) ∧ ns = fs.map (·.1) ∧ Al (Rv K H0 F H m) (fs.map (·.2)) ds fps ∧ fp = a :: dx :: fps
  | .ow _, v, d, fp => Fz K F v d ∧ fp = []
  | .pin m sv, v, d, fp => v = sv ∧ Rv K H0 F H m v d fp
  | .io _ _ _, _, _, _ => False
section
variable {r r' : V → D → List Addr → Prop}
theorem Al.imp : ∀ {vs : List V} {ds : List D} {fp : List Addr}, Al r vs ds fp → (∀ v d f, (∀ a ∈ f, a ∈ fp) → r v d f → r' v d f) → Al r' vs ds fp
  | [], [], _, h, _ => h
  | _ :: _, _ :: _, _, ⟨f1, f2, e, h1, h2⟩, k => ⟨f1, f2, e, k _ _ _ (fun a ha => by rw [e]; exact List.mem_append_left _ ha) h1, h2.imp fun v d f hf => k v d f fun a ha => by rw [e]; exact List.mem_append_right _ (hf a ha)⟩
  | [], _ :: _, _, h, _ => h.elim
  | _ :: _, [], _, h, _ => h.elim
theorem Al.length : ∀ {vs : List V} {ds : List D} {fp : List Addr}, Al r vs ds fp → vs.length = ds.length
  | [], [], _, _ => rfl
  | _ :: _, _ :: _, _, ⟨_, _, _, _, h2⟩ => by rw [List.length_cons, List.length_cons, Al.length h2]
  | [], _ :: _, _, h => h.elim
  | _ :: _, [], _, h => h.elim
theorem Al.append : ∀ {vs ws : List V} {ds es : List D} {f g : List Addr}, Al r vs ds f → Al r ws es g → Al r (vs ++ ws) (ds ++ es) (f ++ g)
  | [], _, [], _, _, _, h, h' => by
    have e : _ = [] := h
    subst e
    exact h'
  | _ :: _, _, _ :: _, _, _, _, ⟨f1, f2, e, h1, h2⟩, h' => ⟨f1, f2 ++ _, by rw [e, List.append_assoc], h1, Al.append h2 h'⟩
  | [], _, _ :: _, _, _, _, h, _ => h.elim
  | _ :: _, _, [], _, _, _, h, _ => h.elim
theorem Al.one {v : V} {d : D} {f : List Addr} (h : r v d f) : Al r [v] [d] f := ⟨f, [], by rw [List.append_nil], h, rfl⟩
/-- one item, and what it is to put another one there -/
theorem Al.at : ∀ {vs : List V} {ds : List D} {fp : List Addr} {i : Nat} {d : D}, Al r vs ds fp → ds[i]? = some d →
    ∃ v f pre post, vs[i]? = some v ∧ r v d f ∧ fp = pre ++ (f ++ post) ∧ ∀ v' d' f', r v' d' f' → Al r (vs.set i v') (ds.set i d') (pre ++ (f' ++ post))
  | v :: vs, d0 :: ds, fp, 0, d, ⟨f1, f2, e, h1, h2⟩, q => by
    simp at q; subst q
    exact ⟨v, f1, [], f2, rfl, h1, e, fun v' d' f' h' => ⟨f', f2, rfl, h', h2⟩⟩
  | v0 :: vs, d0 :: ds, fp, i + 1, d, ⟨f1, f2, e, h1, h2⟩, q => by
    obtain ⟨v, f, pre, post, q1, q2, q3, q4⟩ := Al.at (i := i) (d := d) h2 (by simpa using q)
    refine ⟨v, f, f1 ++ pre, post, by simpa using q1, q2, by rw [e, q3, List.append_assoc], fun v' d' f' h' => ?_⟩
    exact ⟨f1, pre ++ (f' ++ post), by rw [List.append_assoc], h1, q4 v' d' f' h'⟩
  | [], [], _, _, _, _, q => by simp at q
  | [], _ :: _, _, _, _, h, _ => h.elim
  | _ :: _, [], _, _, _, h, _ => h.elim
end
section
variable {K : PySem.W.Frag} {H0 F F' H H' : Hp}
theorem Al.frz : ∀ {vs : List V} {ds : List D} {fp : List Addr}, Al (fun v d f => Fz K F v d ∧ f = []) vs ds fp → FzL K F vs ds ∧ fp = []
  | [], [], _, h => ⟨.nil, h⟩
  | _ :: _, _ :: _, _, ⟨f1, f2, e, ⟨h1, e1⟩, h2⟩ => by
    obtain ⟨q, e2⟩ := Al.frz h2
    exact ⟨.cons h1 q, by rw [e, e1, e2]; rfl⟩
  | [], _ :: _, _, h => h.elim
  | _ :: _, [], _, h => h.elim
theorem FzL.al : ∀ {vs : List V} {ds : List D}, FzL K F vs ds → Al (Rv K H0 F H .fr) vs ds []
  | _, _, .nil => rfl
  | _, _, .cons h hs => ⟨[], [], rfl, ⟨h, rfl⟩, FzL.al hs⟩
theorem Al.fr {vs : List V} {ds : List D} {fp : List Addr} (h : Al (Rv K H0 F H .fr) vs ds fp) : FzL K F vs ds ∧ fp = [] := Al.frz h
end
end DL
/-! DLb: the state relation, what a step may do to the heaps, the judgements' soundness. -/
namespace DL
open PySem L2

/-- nothing in it hangs on the heap as it stands now -/
def M.st : M → Bool
  | .un => false
  | .fr => true
  | .bo => true
  | .pk => false
  | .ow m => m.st
  | .pin m _ => m.st
  | .io _ _ _ => false
/-- towers of own lists over frozen data -/
def M.fz : M → Bool
  | .fr => true
  | .ow m => m.fz
  | _ => false
section
variable {K : PySem.W.Frag} {H0 F F' H H' : Hp}
theorem Al.nil_of {r : V → D → List Addr → Prop} {fp : List Addr} (h : Al r [] [] fp) : fp = [] := h
theorem Rv.ow_lst {m : M} {v : V} {ds : List D} {fp : List Addr} (h : Rv K H0 F H (.ow m) v (.lst ds) fp) :
    ∃ a vs fps, v = .ref a ∧ H a = some (.lst vs) ∧ Al (Rv K H0 F H m) vs ds fps ∧ fp = a :: fps := h
theorem Rv.ow_ob {m : M} {v : V} {C : Addr} {ns : List Str} {ds : List D} {fp : List Addr} (h : Rv K H0 F H (.ow m) v (.ob C ns ds) fp) :
    ∃ a dx fs fps, v = .ref a ∧ H a = some (.ins C dx fs) ∧ H dx = some (.own a) ∧ ns = fs.map (·.1) ∧ Al (Rv K H0 F H m) (fs.map (·.2)) ds fps ∧ fp = a :: dx :: fps := h
theorem Rv.keep (eF : Same F F') : ∀ {m : M} {v : V} {d : D} {fp : List Addr}, m.st = true → (∀ a ∈ fp, ∀ o, ownK o = true → H a = some o → H' a = some o) → Rv K H0 F H m v d fp → Rv K H0 F' H' m v d fp
  | .un, _, _, _, _, _, h => h.elim
  | .fr, _, _, _, _, _, h => ⟨h.1.mono eF, h.2⟩
  | .bo, _, _, _, _, _, h => ⟨h.1.mono (Same.refl _) eF, h.2⟩
  | .pk, _, _, _, hm, _, _ => by cases hm
  | .ow m, v, d, fp, hm, hf, h => by
    cases d with
    | lst ds =>
      obtain ⟨a, vs, fps, e1, e2, e3, e4⟩ := Rv.ow_lst h
      refine ⟨a, vs, fps, e1, hf a (by rw [e4]; exact List.mem_cons_self) _ rfl e2, e3.imp fun v d f hs q => ?_, e4⟩
      exact Rv.keep eF (m := m) hm (fun a ha => hf a (by rw [e4]; exact List.mem_cons_of_mem _ (hs a ha))) q
    | non => exact ⟨h.1.mono eF, h.2⟩
    | bl _ => exact ⟨h.1.mono eF, h.2⟩
    | int _ => exact ⟨h.1.mono eF, h.2⟩
    | str _ => exact ⟨h.1.mono eF, h.2⟩
    | tup _ => exact ⟨h.1.mono eF, h.2⟩
    | ob C ns ds =>
      obtain ⟨a, dx, fs, fps, e1, e2, e3, e4, e5, e6⟩ := Rv.ow_ob h
      refine ⟨a, dx, fs, fps, e1, hf a (by rw [e6]; exact List.mem_cons_self) _ rfl e2, hf dx (by rw [e6]; exact List.mem_cons_of_mem _ List.mem_cons_self) _ rfl e3, e4, e5.imp fun v d f hs q => ?_, e6⟩
      exact Rv.keep eF (m := m) hm (fun a ha => hf a (by rw [e6]; exact List.mem_cons_of_mem _ (List.mem_cons_of_mem _ (hs a ha)))) q
    | cl _ => exact ⟨h.1.mono eF, h.2⟩
    | ex _ _ => exact ⟨h.1.mono eF, h.2⟩
  | .pin m sv, v, d, fp, hm, hf, h => ⟨h.1, Rv.keep eF (m := m) hm hf h.2⟩
  | .io _ _ _, _, _, _, _, _, h => h.elim
theorem Rv.grow (eF : Same F F') (eH : Same H H') : ∀ {m : M} {v : V} {d : D} {fp : List Addr}, Rv K H0 F H m v d fp → Rv K H0 F' H' m v d fp
  | .un, _, _, _, h => h.elim
  | .fr, _, _, _, h => ⟨h.1.mono eF, h.2⟩
  | .bo, _, _, _, h => ⟨h.1.mono (Same.refl _) eF, h.2⟩
  | .pk, _, _, _, h => ⟨h.1.mono eH eF, h.2⟩
  | .ow m, v, d, fp, h => by
    cases d with
    | lst ds =>
      obtain ⟨a, vs, fps, e1, e2, e3, e4⟩ := Rv.ow_lst h
      exact ⟨a, vs, fps, e1, eH.at_ e2, e3.imp fun v d f _ q => Rv.grow eF eH (m := m) q, e4⟩
    | non => exact ⟨h.1.mono eF, h.2⟩
    | bl _ => exact ⟨h.1.mono eF, h.2⟩
    | int _ => exact ⟨h.1.mono eF, h.2⟩
    | str _ => exact ⟨h.1.mono eF, h.2⟩
    | tup _ => exact ⟨h.1.mono eF, h.2⟩
    | ob C ns ds =>
      obtain ⟨a, dx, fs, fps, e1, e2, e3, e4, e5, e6⟩ := Rv.ow_ob h
      exact ⟨a, dx, fs, fps, e1, eH.at_ e2, eH.at_ e3, e4, e5.imp fun v d f _ q => Rv.grow eF eH (m := m) q, e6⟩
    | cl _ => exact ⟨h.1.mono eF, h.2⟩
    | ex _ _ => exact ⟨h.1.mono eF, h.2⟩
  | .pin m sv, v, d, fp, h => ⟨h.1, Rv.grow eF eH (m := m) h.2⟩
  | .io _ _ _, _, _, _, h => h.elim
theorem Al.bo {r : V → D → List Addr → Prop} (hr : ∀ v d f, r v d f → Bo K H F v d) : ∀ {vs : List V} {ds : List D} {fp : List Addr}, Al r vs ds fp → BoL K H F vs ds
  | [], [], _, _ => .nil
  | _ :: _, _ :: _, _, ⟨_, _, _, h1, h2⟩ => .cons (hr _ _ _ h1) (Al.bo hr h2)
  | [], _ :: _, _, h => h.elim
  | _ :: _, [], _, h => h.elim
/-- whatever it is, it can be looked at -/
theorem Rv.pk (eFH : Same F H) (e0 : Same H0 H) : ∀ {m : M} {v : V} {d : D} {fp : List Addr}, Rv K H0 F H m v d fp → Bo K H F v d
  | .un, _, _, _, h => h.elim
  | .fr, _, _, _, h => .fz h.1
  | .bo, _, _, _, h => h.1.mono e0 (Same.refl _)
  | .pk, _, _, _, h => h.1
  | .ow m, v, d, fp, h => by
    cases d with
    | lst ds =>
      obtain ⟨a, vs, fps, e1, e2, e3, e4⟩ := Rv.ow_lst h
      subst e1
      exact .lst (SqL.of e2) (e3.bo fun v d f q => Rv.pk eFH e0 (m := m) q)
    | non => exact .fz h.1
    | bl _ => exact .fz h.1
    | int _ => exact .fz h.1
    | str _ => exact .fz h.1
    | tup _ => exact .fz h.1
    | ob C ns ds =>
      obtain ⟨a, dx, fs, fps, e1, e2, e3, e4, e5, e6⟩ := Rv.ow_ob h
      subst e1
      subst e4
      exact .ob e2 e3 (e5.bo fun v d f q => Rv.pk eFH e0 (m := m) q)
    | cl _ => exact .fz h.1
    | ex _ _ => exact .fz h.1
  | .pin m sv, v, d, fp, h => Rv.pk eFH e0 (m := m) h.2
  | .io _ _ _, _, _, _, h => h.elim
theorem Al.there {r : V → D → List Addr → Prop} {P : Addr → Prop} (hr : ∀ v d f, r v d f → ∀ a ∈ f, P a) : ∀ {vs : List V} {ds : List D} {fp : List Addr}, Al r vs ds fp → ∀ a ∈ fp, P a
  | [], [], fp, h, a, ha => by
    have e : fp = [] := h
    rw [e] at ha; cases ha
  | _ :: _, _ :: _, _, ⟨f1, f2, e, h1, h2⟩, a, ha => by
    rw [e] at ha
    rcases List.mem_append.mp ha with q | q
    · exact hr _ _ _ h1 a q
    · exact Al.there hr h2 a q
  | [], _ :: _, _, h, _, _ => h.elim
  | _ :: _, [], _, h, _, _ => h.elim
theorem Rv.there : ∀ {m : M} {v : V} {d : D} {fp : List Addr}, Rv K H0 F H m v d fp → ∀ a ∈ fp, ∃ o, H a = some o
  | .un, _, _, _, h, _, _ => h.elim
  | .fr, _, _, _, h, a, ha => by rw [h.2] at ha; cases ha
  | .bo, _, _, _, h, a, ha => by rw [h.2] at ha; cases ha
  | .pk, _, _, _, h, a, ha => by rw [h.2] at ha; cases ha
  | .ow m, v, d, fp, h, a, ha => by
    cases d with
    | lst ds =>
      obtain ⟨b, vs, fps, e1, e2, e3, e4⟩ := Rv.ow_lst h
      rw [e4] at ha
      rcases List.mem_cons.mp ha with q | q
      · rw [q]; exact ⟨_, e2⟩
      · exact Al.there (P := fun a => ∃ o, H a = some o) (fun v d f hv => Rv.there (m := m) hv) e3 a q
    | non => rw [h.2] at ha; cases ha
    | bl _ => rw [h.2] at ha; cases ha
    | int _ => rw [h.2] at ha; cases ha
    | str _ => rw [h.2] at ha; cases ha
    | tup _ => rw [h.2] at ha; cases ha
    | ob C ns ds =>
      obtain ⟨b, dx, fs, fps, e1, e2, e3, e4, e5, e6⟩ := Rv.ow_ob h
      rw [e6] at ha
      rcases List.mem_cons.mp ha with q | q
      · rw [q]; exact ⟨_, e2⟩
      rcases List.mem_cons.mp q with q | q
      · rw [q]; exact ⟨_, e3⟩
      · exact Al.there (P := fun a => ∃ o, H a = some o) (fun v d f hv => Rv.there (m := m) hv) e5 a q
    | cl _ => rw [h.2] at ha; cases ha
    | ex _ _ => rw [h.2] at ha; cases ha
  | .pin m sv, v, d, fp, h, a, ha => Rv.there (m := m) h.2 a ha
  | .io _ _ _, _, _, _, h, _, _ => h.elim
theorem Rv.thereL : ∀ {m : M} {v : V} {d : D} {fp : List Addr}, Rv K H0 F H m v d fp → ∀ a ∈ fp, ∃ o, H a = some o ∧ ownK o = true
  | .un, _, _, _, h, _, _ => h.elim
  | .fr, _, _, _, h, a, ha => by rw [h.2] at ha; cases ha
  | .bo, _, _, _, h, a, ha => by rw [h.2] at ha; cases ha
  | .pk, _, _, _, h, a, ha => by rw [h.2] at ha; cases ha
  | .ow m, v, d, fp, h, a, ha => by
    cases d with
    | lst ds =>
      obtain ⟨b, vs, fps, e1, e2, e3, e4⟩ := Rv.ow_lst h
      rw [e4] at ha
      rcases List.mem_cons.mp ha with q | q
      · rw [q]; exact ⟨_, e2, rfl⟩
      · exact Al.there (P := fun a => ∃ o, H a = some o ∧ ownK o = true) (fun v d f hv => Rv.thereL (m := m) hv) e3 a q
    | non => rw [h.2] at ha; cases ha
    | bl _ => rw [h.2] at ha; cases ha
    | int _ => rw [h.2] at ha; cases ha
    | str _ => rw [h.2] at ha; cases ha
    | tup _ => rw [h.2] at ha; cases ha
    | ob C ns ds =>
      obtain ⟨b, dx, fs, fps, e1, e2, e3, e4, e5, e6⟩ := Rv.ow_ob h
      rw [e6] at ha
      rcases List.mem_cons.mp ha with q | q
      · rw [q]; exact ⟨_, e2, rfl⟩
      rcases List.mem_cons.mp q with q | q
      · rw [q]; exact ⟨_, e3, rfl⟩
      · exact Al.there (P := fun a => ∃ o, H a = some o ∧ ownK o = true) (fun v d f hv => Rv.thereL (m := m) hv) e5 a q
    | cl _ => rw [h.2] at ha; cases ha
    | ex _ _ => rw [h.2] at ha; cases ha
  | .pin m sv, v, d, fp, h, a, ha => Rv.thereL (m := m) h.2 a ha
  | .io _ _ _, _, _, _, h, _, _ => h.elim
theorem Al.fzl {r : V → D → List Addr → Prop} : ∀ {vs : List V} {ds : List D} {fp : List Addr}, (∀ v d f, (∀ a ∈ f, a ∈ fp) → r v d f → Fz K F v d) → Al r vs ds fp → FzL K F vs ds
  | [], [], _, _, _ => .nil
  | _ :: _, _ :: _, _, hr, ⟨f1, f2, e, h1, h2⟩ => .cons (hr _ _ _ (fun a ha => by rw [e]; exact List.mem_append_left _ ha) h1) (Al.fzl (fun v d f hf => hr v d f fun a ha => by rw [e]; exact List.mem_append_right _ (hf a ha)) h2)
  | [], _ :: _, _, _, h => h.elim
  | _ :: _, [], _, _, h => h.elim
/-- what is owned, frozen -/
theorem Rv.freeze (eF : Same F F') : ∀ {m : M} {v : V} {d : D} {fp : List Addr}, m.fz = true → (∀ a ∈ fp, F' a = H a) → Rv K H0 F H m v d fp → Fz K F' v d
  | .un, _, _, _, hm, _, _ => by cases hm
  | .fr, _, _, _, _, _, h => h.1.mono eF
  | .bo, _, _, _, hm, _, _ => by cases hm
  | .pk, _, _, _, hm, _, _ => by cases hm
  | .ow m, v, d, fp, hm, hf, h => by
    cases d with
    | lst ds =>
      obtain ⟨b, vs, fps, e1, e2, e3, e4⟩ := Rv.ow_lst h
      subst e1
      refine .lst (SqL.of ((hf b (by rw [e4]; exact List.mem_cons_self)).trans e2)) (e3.fzl fun v d f hs q => ?_)
      exact Rv.freeze eF (m := m) hm (fun a ha => hf a (by rw [e4]; exact List.mem_cons_of_mem _ (hs a ha))) q
    | non => exact h.1.mono eF
    | bl _ => exact h.1.mono eF
    | int _ => exact h.1.mono eF
    | str _ => exact h.1.mono eF
    | tup _ => exact h.1.mono eF
    | ob C ns ds =>
      obtain ⟨b, dx, fs, fps, e1, e2, e3, e4, e5, e6⟩ := Rv.ow_ob h
      subst e1
      subst e4
      refine .ob ((hf b (by rw [e6]; exact List.mem_cons_self)).trans e2) ((hf dx (by rw [e6]; exact List.mem_cons_of_mem _ List.mem_cons_self)).trans e3) (e5.fzl fun v d f hs q => ?_)
      exact Rv.freeze eF (m := m) hm (fun a ha => hf a (by rw [e6]; exact List.mem_cons_of_mem _ (List.mem_cons_of_mem _ (hs a ha)))) q
    | cl _ => exact h.1.mono eF
    | ex _ _ => exact h.1.mono eF
  | .pin _ _, _, _, _, hm, _, _ => by cases hm
  | .io _ _ _, _, _, _, hm, _, _ => by cases hm
end
/-- F and the addresses at fp as they stand in H -/
def frz (F H : Hp) (fp : List Addr) : Hp := fun a => if a ∈ fp then H a else F a
theorem frz_in {F H : Hp} {fp : List Addr} {a : Addr} (h : a ∈ fp) : frz F H fp a = H a := by unfold frz; rw [if_pos h]
theorem frz_out {F H : Hp} {fp : List Addr} {a : Addr} (h : a ∉ fp) : frz F H fp a = F a := by unfold frz; rw [if_neg h]
theorem frz_same {F H : Hp} {fp : List Addr} (h : ∀ a ∈ fp, F a = none) : Same F (frz F H fp) := .of fun a o e => by
  by_cases q : a ∈ fp
  · rw [h a q] at e; cases e
  · rw [frz_out q]; exact e
theorem frz_sub {F H : Hp} {fp : List Addr} (e : Same F H) : Same (frz F H fp) H := ⟨fun a o q n => by
  by_cases z : a ∈ fp
  · rw [frz_in z] at q; exact q
  · rw [frz_out z] at q; exact e.keep _ _ q n, fun a q => by
  by_cases z : a ∈ fp
  · rw [frz_in z]; exact q
  · rw [frz_out z]; exact e.there _ q⟩

/-- what a step may do to the heaps: add -/
structure Ext [Tbs] (F H F' H' : Hp) : Prop where
  f : Same F F'
  h : Same H H'
  fh : Same F' H'
  new : ∀ a o, F' a = some o → F a = some o ∨ H a = none
  tb : TbsOk H → TbsOk H'
variable [Tbs]
theorem Ext.refl {F H : Hp} (e : Same F H) : Ext F H F H := ⟨Same.refl _, Same.refl _, e, fun _ _ q => .inl q, id⟩
theorem Ext.trans {F H F1 H1 F2 H2 : Hp} (a : Ext F H F1 H1) (b : Ext F1 H1 F2 H2) : Ext F H F2 H2 :=
  ⟨a.f.trans b.f, a.h.trans b.h, b.fh, fun c o q => by
    rcases b.new c o q with z | z
    · exact a.new c o z
    · exact .inr (a.h.free z), fun t => b.tb (a.tb t)⟩
theorem Same.new {F H : Hp} {p : Addr} {o : HO} (e : Same F H) (hp : H p = none) : Same F (upd H p o) := ⟨fun a u q n => by
  rw [upd_ne (fun z => by subst z; rw [e.free hp] at q; cases q)]; exact e.keep _ _ q n, fun a q => by
  by_cases z : a = p
  · subst z; rw [upd_same] at q; cases q
  · rw [upd_ne z] at q; exact e.there _ q⟩
theorem Same.both {F H : Hp} {p : Addr} {o : HO} (e : Same F H) : Same (upd F p o) (upd H p o) := ⟨fun a u q n => by
  by_cases z : a = p
  · subst z; rw [upd_same] at q ⊢; exact q
  · rw [upd_ne z] at q ⊢; exact e.keep _ _ q n, fun a q => by
  by_cases z : a = p
  · subst z; rw [upd_same] at q; cases q
  · rw [upd_ne z] at q ⊢; exact e.there _ q⟩
/-- a new object, frozen -/
theorem Ext.laid {F H : Hp} {p : Addr} {o : HO} (e : Same F H) (hp : H p = none) : Ext F H (upd F p o) (upd H p o) :=
  ⟨(Same.refl F).new (e.free hp), (Same.refl H).new hp, e.both, fun a u q => by
    by_cases z : a = p
    · subst z; exact .inr hp
    · rw [upd_ne z] at q; exact .inl q, fun t => t.new hp⟩
/-- a new object, not frozen -/
theorem Ext.made {F H : Hp} {p : Addr} {o : HO} (e : Same F H) (hp : H p = none) : Ext F H F (upd H p o) :=
  ⟨Same.refl _, (Same.refl H).new hp, e.new hp, fun a u q => .inl q, fun t => t.new hp⟩
structure Fresh (H F' : Hp) (fp : List Addr) : Prop where
  nd : fp.Nodup
  un : ∀ a ∈ fp, H a = none ∧ F' a = none
theorem Fresh.nil {H F : Hp} : Fresh H F [] := ⟨List.nodup_nil, fun _ h => nomatch h⟩
theorem Fresh.back {H H1 F : Hp} {fp : List Addr} (f : Fresh H1 F fp) (e : Same H H1) : Fresh H F fp := ⟨f.nd, fun a ha => ⟨e.free (f.un a ha).1, (f.un a ha).2⟩⟩
/-- fresh things stay out of F -/
theorem Fresh.on {H H1 F1 F2 H2 : Hp} {fp : List Addr} (f : Fresh H F1 fp) (x : Ext F1 H1 F2 H2) (th : ∀ a ∈ fp, ∃ o, H1 a = some o) : Fresh H F2 fp :=
  ⟨f.nd, fun a ha => ⟨(f.un a ha).1, by
    cases q : F2 a with
    | none => rfl
    | some o =>
      rcases x.new a o q with z | z
      · rw [(f.un a ha).2] at z; cases z
      · obtain ⟨o', e⟩ := th a ha
        rw [e] at z; cases z⟩⟩
/-- owned, then frozen -/
theorem Ext.frz {F H F' H' : Hp} {fp : List Addr} (x : Ext F H F' H') (f : Fresh H F' fp) : Ext F H (DL.frz F' H' fp) H' :=
  ⟨x.f.trans (frz_same fun a ha => (f.un a ha).2), x.h, frz_sub x.fh, fun a o q => by
    by_cases z : a ∈ fp
    · exact .inr (f.un a z).1
    · rw [frz_out z] at q; exact x.new a o q, x.tb⟩

/-- a slot -/
def So (K : PySem.W.Frag) (H0 F H : Hp) (m : M) (o : Option V) (d : D) (fp : List Addr) : Prop :=
  (m = .un ∧ fp = []) ∨ ∃ v, o = some v ∧ m.st = true ∧ Rv K H0 F H m v d fp
/-- the state of a def's body: F0, H0: frozen and whole heap at its entry; Γ: how each slot stands; ρ: its data -/
structure Rel (K : PySem.W.Frag) (F0 H0 : Hp) (Γ : List M) (ρ : List D) (σ : St) (F H : Hp) (fps : Nat → List Addr) : Prop where
  fh : Same F H
  f0 : Same F0 F
  h0 : Same H0 H
  tb : TbsOk H
  new : ∀ a o, F a = some o → F0 a = some o ∨ H0 a = none
  lg : Γ.length = σ.length
  lr : ρ.length = σ.length
  sl : ∀ i, So K H0 F H (Γ.getD i .un) (σ.getD i none) (ρ.getD i .non) (fps i)
  nd : ∀ i, (fps i).Nodup
  dj : ∀ i j a, a ∈ fps i → a ∈ fps j → i = j
  ow : ∀ i a, a ∈ fps i → F a = none ∧ H0 a = none
section
variable {K : PySem.W.Frag} {F0 H0 F H F' H' : Hp} {Γ : List M} {ρ : List D} {σ : St} {fps : Nat → List Addr}
theorem So.keep {m : M} {o : Option V} {d : D} {fp : List Addr} (eF : Same F F') (hf : ∀ a ∈ fp, ∀ o, ownK o = true → H a = some o → H' a = some o) (h : So K H0 F H m o d fp) : So K H0 F' H' m o d fp := by
  rcases h with h | ⟨v, e, hm, h⟩
  · exact .inl h
  · exact .inr ⟨v, e, hm, h.keep eF hm hf⟩
theorem So.there {m : M} {o : Option V} {d : D} {fp : List Addr} (h : So K H0 F H m o d fp) : ∀ a ∈ fp, ∃ o, H a = some o := by
  rcases h with h | ⟨v, e, hm, h⟩
  · intro a ha; rw [h.2] at ha; cases ha
  · exact h.there
theorem So.thereL {m : M} {o : Option V} {d : D} {fp : List Addr} (h : So K H0 F H m o d fp) : ∀ a ∈ fp, ∃ o, H a = some o ∧ ownK o = true := by
  rcases h with h | ⟨v, e, hm, h⟩
  · intro a ha; rw [h.2] at ha; cases ha
  · exact h.thereL
theorem Rel.thereL (r : Rel K F0 H0 Γ ρ σ F H fps) {i : Nat} {a : Addr} (h : a ∈ fps i) : ∃ o, H a = some o ∧ ownK o = true := (r.sl i).thereL a h
theorem Rel.there (r : Rel K F0 H0 Γ ρ σ F H fps) {i : Nat} {a : Addr} (h : a ∈ fps i) : ∃ o, H a = some o := (r.sl i).there a h
theorem Rel.ext (r : Rel K F0 H0 Γ ρ σ F H fps) (x : Ext F H F' H') : Rel K F0 H0 Γ ρ σ F' H' fps where
  fh := x.fh
  f0 := r.f0.trans x.f
  h0 := r.h0.trans x.h
  tb := x.tb r.tb
  new := fun a o q => by
    rcases x.new a o q with z | z
    · exact r.new a o z
    · exact .inr (r.h0.free z)
  lg := r.lg
  lr := r.lr
  sl := fun i => (r.sl i).keep x.f fun a _ o w q => x.h.at_ q (notTbl_own w)
  nd := r.nd
  dj := r.dj
  ow := fun i a ha => by
    refine ⟨?_, (r.ow i a ha).2⟩
    cases q : F' a with
    | none => rfl
    | some o =>
      rcases x.new a o q with z | z
      · rw [(r.ow i a ha).1] at z; cases z
      · obtain ⟨o', e⟩ := r.there ha
        rw [e] at z; cases z
/-- a slot gets another value; H may have changed in what the slot owned -/
theorem Rel.put {i : Nat} {m : M} {v : V} {d : D} {fp : List Addr} (r : Rel K F0 H0 Γ ρ σ F H fps) (hi : i < σ.length)
    (hm : m.st = true) (hv : Rv K H0 F H m v d fp) (nd : fp.Nodup) (un : ∀ a ∈ fp, F a = none ∧ H0 a = none) (dj : ∀ j a, j ≠ i → a ∈ fps j → a ∉ fp) :
    Rel K F0 H0 (Γ.set i m) (ρ.set i d) (σ.set i (some v)) F H (fun j => if j = i then fp else fps j) where
  fh := r.fh
  f0 := r.f0
  h0 := r.h0
  tb := r.tb
  new := r.new
  lg := by rw [List.length_set, List.length_set]; exact r.lg
  lr := by rw [List.length_set, List.length_set]; exact r.lr
  sl := fun j => by
    by_cases e : j = i
    · subst e
      rw [if_pos rfl]
      refine .inr ⟨v, ?_, ?_, ?_⟩
      · rw [List.getD_eq_getElem?_getD, List.getElem?_set_self hi]; rfl
      · rw [List.getD_eq_getElem?_getD, List.getElem?_set_self (by rw [r.lg]; exact hi)]; exact hm
      · rw [List.getD_eq_getElem?_getD, List.getElem?_set_self (by rw [r.lg]; exact hi), List.getD_eq_getElem?_getD, List.getElem?_set_self (by rw [r.lr]; exact hi)]
        exact hv
    · rw [if_neg e]
      simp only [List.getD_eq_getElem?_getD, List.getElem?_set_ne (Ne.symm e)]
      have := r.sl j
      simp only [List.getD_eq_getElem?_getD] at this
      exact this
  nd := fun j => by
    by_cases e : j = i
    · rw [if_pos e]; exact nd
    · rw [if_neg e]; exact r.nd j
  dj := fun j k a hj hk => by
    by_cases e : j = i
    · by_cases e' : k = i
      · rw [e, e']
      · rw [if_pos e] at hj
        rw [if_neg e'] at hk
        exact absurd hj (dj k a e' hk)
    · rw [if_neg e] at hj
      by_cases e' : k = i
      · rw [if_pos e'] at hk
        exact absurd hk (dj j a e hj)
      · rw [if_neg e'] at hk
        exact r.dj j k a hj hk
  ow := fun j a ha => by
    by_cases e : j = i
    · rw [if_pos e] at ha; exact un a ha
    · rw [if_neg e] at ha; exact r.ow j a ha
/-- .. a fresh one -/
theorem Rel.putF {i : Nat} {m : M} {v : V} {d : D} {fp : List Addr} {Hs : Hp} (r : Rel K F0 H0 Γ ρ σ F H fps) (hi : i < σ.length)
    (hm : m.st = true) (hv : Rv K H0 F H m v d fp) (f : Fresh Hs F fp) (h0 : Same H0 Hs) (th : ∀ j a, a ∈ fps j → ∃ o, Hs a = some o) :
    Rel K F0 H0 (Γ.set i m) (ρ.set i d) (σ.set i (some v)) F H (fun j => if j = i then fp else fps j) :=
  r.put hi hm hv f.nd (fun a ha => ⟨(f.un a ha).2, h0.free (f.un a ha).1⟩) fun j a _ hj ha => by
    obtain ⟨o, e⟩ := th j a hj
    rw [(f.un a ha).1] at e; cases e
/-- the value of a slot -/
theorem Rel.get {i : Nat} {m : M} (r : Rel K F0 H0 Γ ρ σ F H fps) (h : Γ[i]? = some m) (hm : m ≠ .un) : ∃ v, σ[i]? = some (some v) ∧ m.st = true ∧ Rv K H0 F H m v (ρ.getD i .non) (fps i) := by
  have e : Γ.getD i .un = m := by rw [List.getD_eq_getElem?_getD, h]; rfl
  have hs := r.sl i
  rw [e] at hs
  rcases hs with ⟨q, _⟩ | ⟨v, q, st, hv⟩
  · exact absurd q hm
  · refine ⟨v, ?_, st, hv⟩
    rw [List.getD_eq_getElem?_getD] at q
    cases z : σ[i]? with
    | none => rw [z] at q; cases q
    | some o => rw [z] at q; exact congrArg some q
theorem Rel.lt {i : Nat} {m : M} (r : Rel K F0 H0 Γ ρ σ F H fps) (h : Γ[i]? = some m) : i < σ.length := by rw [← r.lg]; exact (List.getElem?_eq_some_iff.mp h).1
/-- a slot that owns is frozen -/
theorem Rel.freeze {i : Nat} {m : M} (r : Rel K F0 H0 Γ ρ σ F H fps) (h : Γ[i]? = some m) (hm : m.fz = true) :
    Rel K F0 H0 (Γ.set i .fr) ρ σ (DL.frz F H (fps i)) H (fun j => if j = i then [] else fps j) := by
  have hun : m ≠ .un := fun e => by rw [e] at hm; cases hm
  obtain ⟨v, hv, st, rv⟩ := r.get h hun
  have hi := r.lt h
  have sF : Same F (DL.frz F H (fps i)) := frz_same fun a ha => (r.ow i a ha).1
  refine ⟨frz_sub r.fh, r.f0.trans sF, r.h0, r.tb, fun a o q => ?_, by rw [List.length_set]; exact r.lg, r.lr, fun j => ?_, fun j => ?_, fun j k a hj hk => ?_, fun j a ha => ?_⟩
  · by_cases z : a ∈ fps i
    · exact .inr (r.ow i a z).2
    · rw [frz_out z] at q; exact r.new a o q
  · by_cases e : j = i
    · subst e
      rw [if_pos rfl, List.getD_eq_getElem?_getD, List.getElem?_set_self (by rw [r.lg]; exact hi)]
      refine .inr ⟨v, by rw [List.getD_eq_getElem?_getD, hv]; rfl, rfl, rv.freeze sF hm fun a ha => frz_in ha, rfl⟩
    · rw [if_neg e, List.getD_eq_getElem?_getD, List.getElem?_set_ne (Ne.symm e), ← List.getD_eq_getElem?_getD]
      exact (r.sl j).keep sF fun a _ o _ q => q
  · by_cases e : j = i
    · rw [if_pos e]; exact List.nodup_nil
    · rw [if_neg e]; exact r.nd j
  · by_cases e : j = i
    · rw [if_pos e] at hj; cases hj
    · rw [if_neg e] at hj
      by_cases e' : k = i
      · rw [if_pos e'] at hk; cases hk
      · rw [if_neg e'] at hk; exact r.dj j k a hj hk
  · by_cases e : j = i
    · rw [if_pos e] at ha; cases ha
    · rw [if_neg e] at ha
      refine ⟨?_, (r.ow j a ha).2⟩
      rw [frz_out fun z => e (r.dj j i a ha z)]
      exact (r.ow j a ha).1
/-- a slot is forgotten -/
theorem Rel.forget {i : Nat} {m : M} (r : Rel K F0 H0 Γ ρ σ F H fps) (h : Γ[i]? = some m) : Rel K F0 H0 (Γ.set i .un) ρ σ F H (fun j => if j = i then [] else fps j) := by
  have hi := r.lt h
  refine ⟨r.fh, r.f0, r.h0, r.tb, r.new, by rw [List.length_set]; exact r.lg, r.lr, fun j => ?_, fun j => ?_, fun j k a hj hk => ?_, fun j a ha => ?_⟩
  · by_cases e : j = i
    · subst e
      rw [if_pos rfl, List.getD_eq_getElem?_getD, List.getElem?_set_self (by rw [r.lg]; exact hi)]
      exact .inl ⟨rfl, rfl⟩
    · rw [if_neg e, List.getD_eq_getElem?_getD, List.getElem?_set_ne (Ne.symm e), ← List.getD_eq_getElem?_getD]
      exact r.sl j
  · by_cases e : j = i
    · rw [if_pos e]; exact List.nodup_nil
    · rw [if_neg e]; exact r.nd j
  · by_cases e : j = i
    · rw [if_pos e] at hj; cases hj
    · rw [if_neg e] at hj
      by_cases e' : k = i
      · rw [if_pos e'] at hk; cases hk
      · rw [if_neg e'] at hk; exact r.dj j k a hj hk
  · by_cases e : j = i
    · rw [if_pos e] at ha; cases ha
    · rw [if_neg e] at ha; exact r.ow j a ha
end
end DL
/-! DLc: the judgements: a piece of syntax, its reading, and what it gives over data. -/
namespace DL
open PySem L2
variable [Tbs]

def RP {α : Type} (r : R α) (P : α → Prop) (X : Ex → Prop) : Prop :=
  match r with
  | .ok a => P a
  | .exc x => X x
  | .bad => False
omit [Tbs] in
theorem RP.imp {α : Type} {r : R α} {P P' : α → Prop} {X X' : Ex → Prop} (h : RP r P X) (hP : ∀ a, P a → P' a) (hX : ∀ x, X x → X' x) : RP r P' X' := by
  cases r with
  | ok a => exact hP a h
  | exc x => exact hX x h
  | bad => exact h
omit [Tbs] in
theorem RP.bind {α β : Type} {r : R α} {f : α → R β} {P : β → Prop} {X : Ex → Prop} (h : RP (r >>= f) P X) : RP r (fun a => RP (f a) P X) X := by
  cases r with
  | ok a => exact h
  | exc x => exact h
  | bad => exact h
/-- how an exception lies: no dict, or a dict of its own with its fields -/
def ExOk (K : PySem.W.Frag) (F H : Hp) (x : Ex) (dx : Option Addr) : Prop :=
  (dx = none ∧ x.ds = []) ∨ x.ds ≠ [] ∧ ∃ a v d, dx = some a ∧ x.ds = [d] ∧ F a = some (.xd [("row", v)]) ∧ Fz K F v d
/-- what is wanted of an exception -/
def XP (K : PySem.W.Frag) (E : XK) (F H : Hp) (x : Ex) : Prop := ∀ F' H' dx, Ext F H F' H' → ExOk K F' H' x dx → E (.ref x.cls) dx H'
theorem XP.on {K : PySem.W.Frag} {E : XK} {F H F1 H1 : Hp} {x : Ex} (h : XP K E F H x) (e : Ext F H F1 H1) : XP K E F1 H1 x := fun F' H' dx e' q => h F' H' dx (e.trans e') q
/-- what is wanted of a value -/
def VP (K : PySem.W.Frag) (H0 F H : Hp) (m : M) (d : D) (Q : VK) : Prop := ∀ v F' H' fp, Ext F H F' H' → Rv K H0 F' H' m v d fp → Fresh H F' fp → Q v H'
theorem VP.on {K : PySem.W.Frag} {H0 F H F1 H1 : Hp} {m : M} {d : D} {Q : VK} (h : VP K H0 F H m d Q) (e : Ext F H F1 H1) : VP K H0 F1 H1 m d Q :=
  fun v F' H' fp e' r f => h v F' H' fp (e.trans e') r (f.back e.h)

/-- an expression's reading t gives, over data, g; its value stands as m says -/
def SE (K : PySem.W.Frag) (E : XK) (Γ : List M) (t : TE) (m : M) (g : List D → R D) : Prop :=
  ∀ F0 H0 ρ σ F H fps Q, Rel K F0 H0 Γ ρ σ F H fps → RP (g ρ) (fun d => VP K H0 F H m d Q) (XP K E F H) → t σ H Q
def ST (K : PySem.W.Frag) (E : XK) (Γ : List M) (t : TT) (g : List D → R Bool) : Prop :=
  ∀ F0 H0 ρ σ F H fps Q, Rel K F0 H0 Γ ρ σ F H fps → RP (g ρ) (fun b => ∀ F' H', Ext F H F' H' → Q b H') (XP K E F H) → t σ H Q
/-- several values, each by its mode -/
inductive Rvs (K : PySem.W.Frag) (H0 F H : Hp) : List M → List V → List D → Prop
  | nil : Rvs K H0 F H [] [] []
  | cons {m : M} {ms : List M} {v : V} {d : D} {vs : List V} {ds : List D} : Rv K H0 F H m v d [] → Rvs K H0 F H ms vs ds → Rvs K H0 F H (m :: ms) (v :: vs) (d :: ds)
omit [Tbs] in
theorem Rvs.grow {K : PySem.W.Frag} {H0 F F' H H' : Hp} (eF : Same F F') (eH : Same H H') {ms : List M} {vs : List V} {ds : List D} (h : Rvs K H0 F H ms vs ds) : Rvs K H0 F' H' ms vs ds := by
  induction h with
  | nil => exact .nil
  | cons h _ ih => exact .cons (h.grow eF eH) ih
def SA (K : PySem.W.Frag) (E : XK) (Γ : List M) (t : TA) (ms : List M) (g : List D → R (List D)) : Prop :=
  ∀ F0 H0 ρ σ F H fps Q, Rel K F0 H0 Γ ρ σ F H fps → RP (g ρ) (fun ds => ∀ vs F' H', Ext F H F' H' → Rvs K H0 F' H' ms vs ds → Q vs H') (XP K E F H) → t σ H Q

/-- built-in names that the module does not bind -/
structure Bn (mg : Str → Option Value) : Prop where
  range : mg "range" = none
  len : mg "len" = none
  list : mg "list" = none
  tuple : mg "tuple" = none
  isinstance : mg "isinstance" = none
  int : mg "int" = none
  bool : mg "bool" = none
  str : mg "str" = none
  max : mg "max" = none
  min : mg "min" = none
  abs : mg "abs" = none
  all : mg "all" = none
  any : mg "any" = none
  sum : mg "sum" = none
  sorted : mg "sorted" = none
  divmod : mg "divmod" = none
  enumerate : mg "enumerate" = none
  zip : mg "zip" = none
  reversed : mg "reversed" = none
  repr : mg "repr" = none
  set : mg "set" = none
/-- what all pieces of a def's body share -/
structure Uni (K : PySem.W.Frag) (E : XK) (k : Nat) (X : Cx) : Prop where
  K : X.K = K
  nd : X.N.Nodup
  calm : X.calm = true
  room : Room k X.A
  hu : X.A.units + 64 < cLine
  po : PassesOwn (model X.prog X.w) X.A X.env X.xe
  pass : Passes (L2.CX X.prog X.w) X E
  tk : Takes X (fun cls d _ H => E cls d H)
  bn : Bn X.mg

structure DE (K : PySem.W.Frag) (E : XK) (X : Cx) (Γ : List M) (e : Expr) (t : TE) (m : M) (g : List D → R D) : Prop where
  pe : PE X e t
  se : SE K E Γ t m g
structure DT (K : PySem.W.Frag) (E : XK) (X : Cx) (Γ : List M) (e : Expr) (t : TT) (g : List D → R Bool) : Prop where
  pt : PT X e t
  st : ST K E Γ t g
structure DA (K : PySem.W.Frag) (E : XK) (X : Cx) (Γ : List M) (es : List Expr) (t : TA) (ms : List M) (g : List D → R (List D)) : Prop where
  pa : PA X es t
  sa : SA K E Γ t ms g

/-- the slot's data -/
def gv (i : Nat) : List D → R D := fun ρ => .ok (ρ.getD i .non)
def gc (d : D) : List D → R D := fun _ => .ok d
def g1 (f : D → R D) (ga : List D → R D) : List D → R D := fun ρ => ga ρ >>= f
def g2 (f : D → D → R D) (ga gb : List D → R D) : List D → R D := fun ρ => ga ρ >>= fun x => gb ρ >>= fun y => f x y
def nlD (d : D) : R D := if nlB d = true then .ok d else .bad

section
variable {K : PySem.W.Frag} {E : XK} {Γ : List M} {t ta tb : TE} {m : M} {g ga gb : List D → R D}
theorem SE.imp {g' : List D → R D} {m' : M} (h : SE K E Γ t m g)
    (k : ∀ F0 H0 ρ σ F H fps Q, Rel K F0 H0 Γ ρ σ F H fps → RP (g' ρ) (fun d => VP K H0 F H m' d Q) (XP K E F H) → RP (g ρ) (fun d => VP K H0 F H m d Q) (XP K E F H)) : SE K E Γ t m' g' :=
  fun F0 H0 ρ σ F H fps Q r q => h F0 H0 ρ σ F H fps Q r (k F0 H0 ρ σ F H fps Q r q)
/-- to look at -/
theorem SE.pk (h : SE K E Γ t m g) : SE K E Γ t .pk g := h.imp fun F0 H0 ρ σ F H fps Q r q => q.imp (fun d hd v F' H' fp e rv f =>
  hd v F' H' [] e ⟨rv.pk e.fh (r.h0.trans e.h), rfl⟩ Fresh.nil) fun _ z => z
/-- own things are frozen -/
theorem SE.frz (h : SE K E Γ t m g) (hm : m.fz = true) : SE K E Γ t .fr g := h.imp fun F0 H0 ρ σ F H fps Q r q => q.imp (fun d hd v F' H' fp e rv f =>
  hd v (DL.frz F' H' fp) H' [] (e.frz f) ⟨rv.freeze (frz_same fun a ha => (f.un a ha).2) hm fun a ha => frz_in ha, rfl⟩ Fresh.nil) fun _ z => z
/-- what is no list and no object is frozen in any case -/
theorem SE.fix (h : SE K E Γ t .pk g) : SE K E Γ t .fr (g1 nlD g) := h.imp fun F0 H0 ρ σ F H fps Q r q => (RP.bind q).imp (fun d hd v F' H' fp e rv f => by
  unfold nlD at hd
  by_cases n : nlB d = true
  · rw [if_pos n] at hd
    exact hd v F' H' [] e ⟨rv.1.fix n, rfl⟩ Fresh.nil
  · rw [if_neg n] at hd
    exact hd.elim) fun _ z => z
end

section
variable {K : PySem.W.Frag} {E : XK} {X : Cx} {Γ : List M} {e a b c : Expr} {t ta tb tc : TE} {m : M} {g ga gb gc' : List D → R D} {pos : Pos} {k : Nat}
theorem DE.pk (h : DE K E X Γ e t m g) : DE K E X Γ e t .pk g := ⟨h.pe, h.se.pk⟩
theorem DE.frz (h : DE K E X Γ e t m g) (hm : m.fz = true := by rfl) : DE K E X Γ e t .fr g := ⟨h.pe, h.se.frz hm⟩
theorem DE.fix (h : DE K E X Γ e t m g) : DE K E X Γ e t .fr (g1 nlD g) := ⟨h.pe, h.se.pk.fix⟩

/-! ### names, constants -/
theorem se_var {i : Nat} {m : M} (h : Γ[i]? = some m) (hm : m = .fr ∨ m = .bo) : SE K E Γ (tVar i) m (gv i) := fun F0 H0 ρ σ F H fps Q r q => by
  obtain ⟨v, hv, st, rv⟩ := r.get h (by rcases hm with e | e <;> rw [e] <;> exact fun z => nomatch z)
  refine ⟨v, hv, q v F H [] (Ext.refl r.fh) ?_ Fresh.nil⟩
  rcases hm with e | e
  · subst e; exact ⟨rv.1, rfl⟩
  · subst e; exact ⟨rv.1, rfl⟩
theorem se_varP {i : Nat} {m : M} (h : Γ[i]? = some m) (hm : m ≠ .un) : SE K E Γ (tVar i) .pk (gv i) := fun F0 H0 ρ σ F H fps Q r q => by
  obtain ⟨v, hv, st, rv⟩ := r.get h hm
  exact ⟨v, hv, q v F H [] (Ext.refl r.fh) ⟨rv.pk r.fh r.h0, rfl⟩ Fresh.nil⟩
/-- a frozen slot -/
theorem de_v (i : Nat) {x : Str} (h : Γ[i]? = some M.fr := by rfl) (hN : X.N[i]? = some x := by rfl) (hv : Vis X.env.scope x := by first | exact Or.inl rfl | exact Or.inr (Or.inl rfl) | exact Or.inr (Or.inr rfl))
    (hd : (x == ("__debug__" : Str)) = false := by decide) (hcd : (x == ("__classdict__" : Str)) = false := by decide) : DE K E X Γ (.Name x pos) (tVar i) .fr (gv i) := ⟨pe_var hN hv hd hcd, se_var h (.inl rfl)⟩
/-- a borrowed slot -/
theorem de_vb (i : Nat) {x : Str} (h : Γ[i]? = some M.bo := by rfl) (hN : X.N[i]? = some x := by rfl) (hv : Vis X.env.scope x := by first | exact Or.inl rfl | exact Or.inr (Or.inl rfl) | exact Or.inr (Or.inr rfl))
    (hd : (x == ("__debug__" : Str)) = false := by decide) (hcd : (x == ("__classdict__" : Str)) = false := by decide) : DE K E X Γ (.Name x pos) (tVar i) .bo (gv i) := ⟨pe_var hN hv hd hcd, se_var h (.inr rfl)⟩
/-- any slot, to be looked at -/
theorem de_vp (i : Nat) {x : Str} {m : M} (h : Γ[i]? = some m := by rfl) (hm : m ≠ .un := by exact fun z => nomatch z) (hN : X.N[i]? = some x := by rfl) (hv : Vis X.env.scope x := by first | exact Or.inl rfl | exact Or.inr (Or.inl rfl) | exact Or.inr (Or.inr rfl))
    (hd : (x == ("__debug__" : Str)) = false := by decide) (hcd : (x == ("__classdict__" : Str)) = false := by decide) : DE K E X Γ (.Name x pos) (tVar i) .pk (gv i) := ⟨pe_var hN hv hd hcd, se_varP h hm⟩
theorem se_c {v : V} {d : D} (h : ∀ F : Hp, Fz K F v d) : SE K E Γ (tC v) .fr (gc d) := fun F0 H0 ρ σ F H fps Q r q => q v F H [] (Ext.refl r.fh) ⟨h F, rfl⟩ Fresh.nil
theorem de_int {i j} : DE K E X Γ (.Constant (.int i) j pos) (tC (.int i)) .fr (gc (.int i)) := ⟨pe_int, se_c fun F => .int i⟩
theorem de_bl {b j} : DE K E X Γ (.Constant (.bool b) j pos) (tC (.bl b)) .fr (gc (.bl b)) := ⟨pe_bl, se_c fun F => .bl b⟩
theorem de_non {j} : DE K E X Γ (.Constant .none j pos) (tC .non) .fr (gc .non) := ⟨pe_non, se_c fun F => .non⟩
theorem de_str {x j} : DE K E X Γ (.Constant (.str x) j pos) (tC (.str x)) .fr (gc (.str x)) := ⟨pe_str, se_c fun F => .str x⟩
/-- a module's constant -/
theorem de_glob {x : Str} {v : V} {u : Value} {d : D} (hm : X.mg x = some u) (r : RelV v u) (h : ∀ F : Hp, Fz K F v d) (hg : Gl X x := by rfl) (hd : (x == ("__debug__" : Str)) = false := by decide) : DE K E X Γ (.Name x pos) (tC v) .fr (gc d) :=
  ⟨pe_glob hg hm r hd, se_c h⟩

/-! ### two operands -/
/-- an operation on values and what it gives over data -/
def SO2 (K : PySem.W.Frag) (r : R2) (m : M) (f : D → D → R D) : Prop :=
  ∀ H0 F H x y dx dy Q, Same F H → Same H0 H → Bo K H F x dx → Bo K H F y dy → RP (f dx dy) (fun d => VP K H0 F H m d Q) (fun _ => False) → r x y H Q
theorem se_op {r : R2} {m : M} {f : D → D → R D} (hs : SO2 K r m f) (hx : ∀ x y e, f x y ≠ .exc e) (ha : SE K E Γ ta .pk ga) (hb : SE K E Γ tb .pk gb) : SE K E Γ (tOp r ta tb) m (g2 f ga gb) := fun F0 H0 ρ σ F H fps Q r q => by
  refine ha F0 H0 ρ σ F H fps _ r ((RP.bind q).imp (fun dx q1 x F1 H1 fp1 e1 rv1 f1 => ?_) fun _ z => z)
  refine hb F0 H0 ρ σ F1 H1 fps _ (r.ext e1) ((RP.bind q1).imp (fun dy q2 y F2 H2 fp2 e2 rv2 f2 => ?_) fun _ z => z.on e1)
  refine hs H0 F2 H2 x y dx dy Q e2.fh (r.h0.trans (e1.h.trans e2.h)) (rv1.1.mono e2.h e2.f) rv2.1 ?_
  cases hf : f dx dy with
  | ok d => rw [hf] at q2; exact VP.on (VP.on q2 e1) e2
  | exc x => exact absurd hf (hx _ _ _)
  | bad => rw [hf] at q2; exact q2
end
end DL
/-! DLd: operators over data. -/
namespace DL
open PySem L2
variable [Tbs]

section
variable {K : PySem.W.Frag} {H0 F H : Hp} {Q : VK}
omit [Tbs] in
theorem nofree {F H : Hp} {p : Addr} (e : Same F H) (h : H p = none) : F p = none := e.free h
/-- a value that stands already -/
theorem VP.old {v : V} {d : D} (q : VP K H0 F H .fr d Q) (e : Same F H) (h : Fz K F v d) : Q v H := q v F H [] (Ext.refl e) ⟨h, rfl⟩ Fresh.nil
theorem VP.oldP {v : V} {d : D} (q : VP K H0 F H .pk d Q) (e : Same F H) (h : Bo K H F v d) : Q v H := q v F H [] (Ext.refl e) ⟨h, rfl⟩ Fresh.nil
def notL : D → Bool
  | .lst _ => false
  | .ob _ _ _ => false
  | _ => true
omit [Tbs] in
theorem Rv.flat {m : M} {v : V} {d : D} (n : notL d = true) (h : Fz K F v d) : Rv K H0 F H (.ow m) v d [] := by
  cases d with
  | lst _ => cases n
  | ob _ _ _ => cases n
  | non => exact ⟨h, rfl⟩
  | bl _ => exact ⟨h, rfl⟩
  | int _ => exact ⟨h, rfl⟩
  | str _ => exact ⟨h, rfl⟩
  | tup _ => exact ⟨h, rfl⟩
  | cl _ => exact ⟨h, rfl⟩
  | ex _ _ => exact ⟨h, rfl⟩
theorem VP.oldF {m : M} {v : V} {d : D} (q : VP K H0 F H (.ow m) d Q) (e : Same F H) (n : notL d = true) (h : Fz K F v d) : Q v H := q v F H [] (Ext.refl e) (Rv.flat n h) Fresh.nil
theorem VP.newT {ds : List D} {vs : List V} {p : Addr} (q : VP K H0 F H .fr (.tup ds) Q) (e : Same F H) (hp : H p = none) (h : FzL K F vs ds) : Q (.ref p) (upd H p (.tup vs)) :=
  q (.ref p) (upd F p (.tup vs)) _ [] (Ext.laid e hp) ⟨.tup (SqT.of upd_same) (h.mono (Ext.laid e hp).f), rfl⟩ Fresh.nil
theorem VP.newTF {m : M} {ds : List D} {vs : List V} {p : Addr} (q : VP K H0 F H (.ow m) (.tup ds) Q) (e : Same F H) (hp : H p = none) (h : FzL K F vs ds) : Q (.ref p) (upd H p (.tup vs)) :=
  q (.ref p) (upd F p (.tup vs)) _ [] (Ext.laid e hp) ⟨.tup (SqT.of upd_same) (h.mono (Ext.laid e hp).f), rfl⟩ Fresh.nil
omit [Tbs] in
theorem Fresh.one {p : Addr} (e : Same F H) (hp : H p = none) : Fresh H F [p] := ⟨by simp, fun a ha => by
  have e' : a = p := by simpa using ha
  subst e'
  exact ⟨hp, e.free hp⟩⟩
theorem VP.newL {ds : List D} {vs : List V} {p : Addr} (q : VP K H0 F H (.ow .fr) (.lst ds) Q) (e : Same F H) (hp : H p = none) (h : FzL K F vs ds) : Q (.ref p) (upd H p (.lst vs)) :=
  q (.ref p) F _ [p] (Ext.made e hp) ⟨p, vs, [], rfl, upd_same, h.al, rfl⟩ (Fresh.one e hp)
end

/-! ### list + list, whatever lists -/
section
open PySem.Spec PyProof.Rows HT
variable {X : Cx}
def rCatLs (K : PySem.W.Frag) : R2 := fun x y H Q => ∃ l b xs zs, x = .ref l ∧ y = .ref b ∧ SqL K H l xs ∧ SqL K H b zs ∧ xs.length + zs.length ≤ sizeLine ∧ ∀ p, H p = none → Q (.ref p) (upd H p (.lst (xs ++ zs)))
omit [Tbs] in
theorem op_catLs : OpR X (binaryOp .Add) (rCatLs X.K) := by
  intro pins s σ H x y v u Q I rx ry h
  obtain ⟨l, b, xs, zs, rfl, rfl, hH, hB, hz, q⟩ := h
  cases rx
  cases ry
  obtain ⟨its, r, p1, _⟩ := I.list hH
  obtain ⟨its2, r2, p2, _⟩ := I.list hB
  have hl := r.length
  have hl2 := r2.length
  obtain ⟨⟨cls, dd, data, sl⟩, ho, hc, n, hd⟩ := p1.isList
  obtain ⟨⟨cls2, dd2, data2, sl2⟩, ho2, hc2, n2, hd2⟩ := p2.isList
  simp only at hc hd hc2 hd2
  subst hc hd hc2 hd2
  have e : its.toArray ++ its2.toArray = (its ++ its2).toArray := by simp
  refine concat_meets ⟨_, ho, rfl⟩ ⟨_, ho2, rfl⟩ noFill_list_add seq_list_add PySem.F.slot_list_add PySem.F.entry_list_add (PySem.F.args_list_add_2 _ _) (list_addW l b its.toArray its2.toArray n n2 dd dd2 sl sl2 (by rw [List.size_toArray, List.size_toArray]; omega)) ⟨ho, ho2, ?_⟩
  rw [e]
  exact ⟨.ref _, _, I.lnew (t' := s.toks) (r.append r2) (by rw [List.length_append]; omega), rfl, q _ I.fresh⟩
end

/-! ### + -/
def rAddD (K : PySem.W.Frag) : R2 := fun x y H Q =>
  rI0 (fun i j => .int (i + j)) x y H Q ∨ (∃ i k, x = .int i ∧ y = .bl k ∧ Q (.int (i + PyProof.Rows.b2i k)) H) ∨ (∃ i j, x = .str i ∧ y = .str j ∧ i.length + j.length ≤ sizeLine ∧ Q (.str (i ++ j)) H) ∨ rCatA K x y H Q ∨ rCatLs K x y H Q
omit [Tbs] in
theorem op_addD {X : Cx} : OpR X (binaryOp .Add) (rAddD X.K) := op_add.or (op_add_ib.or (op_add_str.or (op_catA.or op_catLs)))
def dAdd : D → D → R D
  | .int i, .int j => .ok (.int (i + j))
  | .int i, .bl k => .ok (.int (i + PyProof.Rows.b2i k))
  | .str a, .str b => if a.length + b.length ≤ sizeLine then .ok (.str (a ++ b)) else .bad
  | .tup xs, .tup ys => if xs.length + ys.length ≤ sizeLine then .ok (.tup (xs ++ ys)) else .bad
  | .lst xs, .lst ys => if xs.all nlB = true ∧ ys.all nlB = true ∧ xs.length + ys.length ≤ sizeLine then .ok (.lst (xs ++ ys)) else .bad
  | _, _ => .bad
omit [Tbs] in
theorem RP.ite {α : Type} {c : Prop} [Decidable c] {a : R α} {P : α → Prop} {X : Ex → Prop} (h : RP (if c then a else .bad) P X) : c ∧ RP a P X := by
  by_cases e : c
  · rw [if_pos e] at h; exact ⟨e, h⟩
  · rw [if_neg e] at h; exact h.elim
theorem so_add {K : PySem.W.Frag} : SO2 K (rAddD K) (.ow .fr) dAdd := by
  intro H0 F H x y dx dy Q eF e0 hx hy q
  cases dx with
  | int i =>
    obtain rfl := hx.intOf
    cases dy with
    | int j =>
      obtain rfl := hy.intOf
      exact .inl ⟨i, j, rfl, rfl, VP.oldF q eF rfl (.int _)⟩
    | bl k =>
      obtain rfl := hy.blOf
      exact .inr (.inl ⟨i, k, rfl, rfl, VP.oldF q eF rfl (.int _)⟩)
    | _ => exact (show False from q).elim
  | str a =>
    obtain rfl := hx.strOf
    cases dy with
    | str b =>
      obtain rfl := hy.strOf
      obtain ⟨c, q⟩ := RP.ite q
      exact .inr (.inr (.inl ⟨a, b, rfl, rfl, c, VP.oldF q eF rfl (.str _)⟩))
    | _ => exact (show False from q).elim
  | tup xs =>
    cases dy with
    | tup ys =>
      obtain ⟨c, q⟩ := RP.ite q
      obtain ⟨a, vs, rfl, h1, h2⟩ := hx.tupOf
      obtain ⟨b, ws, rfl, h3, h4⟩ := hy.tupOf
      have l1 := h2.length
      have l2 := h4.length
      refine .inr (.inr (.inr (.inl ⟨a, b, vs, ws, rfl, rfl, Same.sqt eF h1, Same.sqt eF h3, by omega, fun e => ?_, fun _ e => ?_, fun _ _ p hp => ?_⟩)))
      · subst e
        cases h2
        exact VP.oldF q eF rfl (.tup h3 h4)
      · subst e
        cases h4
        rw [List.append_nil] at q
        exact VP.oldF q eF rfl (.tup h1 h2)
      · exact VP.newTF q eF hp (h2.append h4)
    | _ => exact (show False from q).elim
  | lst xs =>
    cases dy with
    | lst ys =>
      obtain ⟨⟨c1, c2, c3⟩, q⟩ := RP.ite q
      obtain ⟨a, vs, rfl, h1, h2⟩ := hx.listOf eF
      obtain ⟨b, ws, rfl, h3, h4⟩ := hy.listOf eF
      have l1 := h2.length
      have l2 := h4.length
      exact .inr (.inr (.inr (.inr ⟨a, b, vs, ws, rfl, rfl, h1, h3, by omega, fun p hp => VP.newL q eF hp ((h2.fix c1).append (h4.fix c2))⟩)))
    | _ => exact (show False from q).elim
  | _ => exact (show False from q).elim

omit [Tbs] in
theorem RP.ite' {α : Type} {c : Prop} [Decidable c] {a : R α} {P : α → Prop} {X : Ex → Prop} (h : RP (if c then a else .bad) P X) : c ∧ RP a P X := RP.ite h
/-! ### ints -/
def dI2 (C : Int → Int → Prop) [∀ i j, Decidable (C i j)] (g : Int → Int → Int) : D → D → R D
  | .int i, .int j => if C i j then .ok (.int (g i j)) else .bad
  | _, _ => .bad
theorem so_I {K : PySem.W.Frag} {C C' : Int → Int → Prop} [∀ i j, Decidable (C i j)] {g : Int → Int → Int} (hc : ∀ i j, C i j → C' i j) : SO2 K (rI C' fun i j => .int (g i j)) .fr (dI2 C g) := by
  intro H0 F H x y dx dy Q eF e0 hx hy q
  cases dx with
  | int i =>
    obtain rfl := hx.intOf
    cases dy with
    | int j =>
      obtain rfl := hy.intOf
      obtain ⟨c, q⟩ := RP.ite q
      exact ⟨i, j, rfl, rfl, hc i j c, VP.old q eF (.int _)⟩
    | _ => exact (show False from q).elim
  | _ => exact (show False from q).elim
def dI0 (g : Int → Int → Int) : D → D → R D
  | .int i, .int j => .ok (.int (g i j))
  | _, _ => .bad
theorem so_I0 {K : PySem.W.Frag} {g : Int → Int → Int} : SO2 K (rI0 fun i j => .int (g i j)) .fr (dI0 g) := by
  intro H0 F H x y dx dy Q eF e0 hx hy q
  cases dx with
  | int i =>
    obtain rfl := hx.intOf
    cases dy with
    | int j =>
      obtain rfl := hy.intOf
      exact ⟨i, j, rfl, rfl, VP.old q eF (.int _)⟩
    | _ => exact (show False from q).elim
  | _ => exact (show False from q).elim
def dB0 (g : Int → Int → Bool) : D → D → R D
  | .int i, .int j => .ok (.bl (g i j))
  | _, _ => .bad
theorem so_B0 {K : PySem.W.Frag} {g : Int → Int → Bool} : SO2 K (rI0 fun i j => .bl (g i j)) .fr (dB0 g) := by
  intro H0 F H x y dx dy Q eF e0 hx hy q
  cases dx with
  | int i =>
    obtain rfl := hx.intOf
    cases dy with
    | int j =>
      obtain rfl := hy.intOf
      exact ⟨i, j, rfl, rfl, VP.old q eF (.bl _)⟩
    | _ => exact (show False from q).elim
  | _ => exact (show False from q).elim
omit [Tbs] in
theorem dI2_x {C : Int → Int → Prop} [∀ i j, Decidable (C i j)] {g : Int → Int → Int} : ∀ x y e, dI2 C g x y ≠ .exc e := by
  intro x y e h
  cases x <;> cases y <;> simp only [dI2] at h <;> first | (cases h; done) | (split at h <;> cases h)
theorem dI0_x {g : Int → Int → Int} : ∀ x y e, dI0 g x y ≠ .exc e := by
  intro x y e h
  cases x <;> cases y <;> exact nomatch h
theorem dB0_x {g : Int → Int → Bool} : ∀ x y e, dB0 g x y ≠ .exc e := by
  intro x y e h
  cases x <;> cases y <;> exact nomatch h
theorem dAdd_x : ∀ x y e, dAdd x y ≠ .exc e := by
  intro x y e h
  cases x <;> cases y <;> simp only [dAdd] at h <;> first | (cases h; done) | (split at h <;> cases h)
instance (i j : Int) : Decidable (CMul i j) := by unfold CMul; infer_instance
instance (i j : Int) : Decidable (CMulX i j) := by unfold CMulX; infer_instance
instance (i j : Int) : Decidable (CDivW i j) := by unfold CDivW; infer_instance
instance (i j : Int) : Decidable (CPow i j) := by unfold CPow; infer_instance
instance (i j : Int) : Decidable (CShl i j) := by unfold CShl; infer_instance
def CMulD (i j : Int) : Prop := CMul i j ∨ CMulX i j
instance (i j : Int) : Decidable (CMulD i j) := by unfold CMulD; infer_instance
theorem op_mulD {X : Cx} : OpR X (binaryOp .Mult) (rI CMulD fun i j => .int (i * j)) := opI fun i j _ _ _ _ _ hc q => by
  rcases hc with h | h
  · exact PyProof.Rows.mul_int q h.ok
  · exact PyProof.Rows.mul_int q h.ok
def dSub : D → D → R D := dI0 fun i j => i - j
def dMul : D → D → R D := dI2 CMulD fun i j => i * j
def dDiv : D → D → R D := dI2 CDivW fun i j => i / j
def dMod : D → D → R D := dI2 (fun _ j => 0 < j) fun i j => i % j
def dPow : D → D → R D := dI2 CPow fun i j => i ^ j.toNat
def dShl : D → D → R D := dI2 CShl fun i j => i * 2 ^ j.toNat
def dShr : D → D → R D := dI2 (fun _ j => 0 ≤ j) fun i j => i / 2 ^ j.toNat
def dAnd : D → D → R D := dI0 fun i j => Builtin.bitAnd i j
def dOr : D → D → R D := dI0 fun i j => Builtin.bitOr i j
def dXor : D → D → R D := dI0 fun i j => Builtin.bitXor i j
def dLt : D → D → R D := dB0 fun i j => decide (i < j)
def dLe : D → D → R D := dB0 fun i j => decide (i ≤ j)
def dGt : D → D → R D := dB0 fun i j => decide (j < i)
def dGe : D → D → R D := dB0 fun i j => decide (j ≤ i)
section
variable {K : PySem.W.Frag} {E : XK} {X : Cx} {Γ : List M} {e a b c : Expr} {t ta tb tc : TE} {m ma mb : M} {g ga gb : List D → R D} {pos : Pos} {k : Nat}
theorem DE.op {op : Operator} {r : R2} {f : D → D → R D} (ho : OpR X (binaryOp op) r) (hs : SO2 K r m f) (hx : ∀ x y e, f x y ≠ .exc e) (ha : DE K E X Γ a ta ma ga) (hb : DE K E X Γ b tb mb gb) :
    DE K E X Γ (.BinOp a op b pos) (tOp r ta tb) m (g2 f ga gb) := ⟨pe_op ho ha.pe hb.pe, se_op hs hx ha.se.pk hb.se.pk⟩
theorem de_add (U : Uni K E k X) (ha : DE K E X Γ a ta ma ga) (hb : DE K E X Γ b tb mb gb) : DE K E X Γ (.BinOp a .Add b pos) (tOp (rAddD K) ta tb) (.ow .fr) (g2 dAdd ga gb) := by
  have e := U.K
  subst e
  exact DE.op op_addD so_add dAdd_x ha hb
theorem de_sub (ha : DE K E X Γ a ta ma ga) (hb : DE K E X Γ b tb mb gb) : DE K E X Γ (.BinOp a .Sub b pos) (tOp (rI0 fun i j => .int (i - j)) ta tb) .fr (g2 dSub ga gb) := DE.op op_sub so_I0 dI0_x ha hb
theorem de_mul (ha : DE K E X Γ a ta ma ga) (hb : DE K E X Γ b tb mb gb) : DE K E X Γ (.BinOp a .Mult b pos) (tOp (rI CMulD fun i j => .int (i * j)) ta tb) .fr (g2 dMul ga gb) := DE.op op_mulD (so_I fun _ _ h => h) dI2_x ha hb
theorem de_div (ha : DE K E X Γ a ta ma ga) (hb : DE K E X Γ b tb mb gb) : DE K E X Γ (.BinOp a .FloorDiv b pos) (tOp (rI CDivW fun i j => .int (i / j)) ta tb) .fr (g2 dDiv ga gb) := DE.op op_fdivW (so_I fun _ _ h => h) dI2_x ha hb
theorem de_mod (ha : DE K E X Γ a ta ma ga) (hb : DE K E X Γ b tb mb gb) : DE K E X Γ (.BinOp a .Mod b pos) (tOp (rI (fun _ j => 0 < j) fun i j => .int (i % j)) ta tb) .fr (g2 dMod ga gb) := DE.op op_mod (so_I fun _ _ h => h) dI2_x ha hb
theorem de_pow (ha : DE K E X Γ a ta ma ga) (hb : DE K E X Γ b tb mb gb) : DE K E X Γ (.BinOp a .Pow b pos) (tOp (rI CPow fun i j => .int (i ^ j.toNat)) ta tb) .fr (g2 dPow ga gb) := DE.op op_pow (so_I fun _ _ h => h) dI2_x ha hb
theorem de_shl (ha : DE K E X Γ a ta ma ga) (hb : DE K E X Γ b tb mb gb) : DE K E X Γ (.BinOp a .LShift b pos) (tOp (rI CShl fun i j => .int (i * 2 ^ j.toNat)) ta tb) .fr (g2 dShl ga gb) := DE.op op_shlW (so_I fun _ _ h => h) dI2_x ha hb
theorem de_shr (ha : DE K E X Γ a ta ma ga) (hb : DE K E X Γ b tb mb gb) : DE K E X Γ (.BinOp a .RShift b pos) (tOp (rI (fun _ j => 0 ≤ j) fun i j => .int (i / 2 ^ j.toNat)) ta tb) .fr (g2 dShr ga gb) := DE.op op_shr (so_I fun _ _ h => h) dI2_x ha hb
theorem de_band (ha : DE K E X Γ a ta ma ga) (hb : DE K E X Γ b tb mb gb) : DE K E X Γ (.BinOp a .BitAnd b pos) (tOp (rI0 fun i j => .int (Builtin.bitAnd i j)) ta tb) .fr (g2 dAnd ga gb) := DE.op op_and so_I0 dI0_x ha hb
theorem de_bor (ha : DE K E X Γ a ta ma ga) (hb : DE K E X Γ b tb mb gb) : DE K E X Γ (.BinOp a .BitOr b pos) (tOp (rI0 fun i j => .int (Builtin.bitOr i j)) ta tb) .fr (g2 dOr ga gb) := DE.op op_or so_I0 dI0_x ha hb
theorem de_bxor (ha : DE K E X Γ a ta ma ga) (hb : DE K E X Γ b tb mb gb) : DE K E X Γ (.BinOp a .BitXor b pos) (tOp (rI0 fun i j => .int (Builtin.bitXor i j)) ta tb) .fr (g2 dXor ga gb) := DE.op op_xor so_I0 dI0_x ha hb

/-! ### comparisons, as values and as tests -/
def toB : D → R Bool
  | .bl b => .ok b
  | _ => .bad
def gB (g : List D → R D) : List D → R Bool := fun ρ => g ρ >>= toB
theorem st_val (h : SE K E Γ t m g) : ST K E Γ (tTest t) (gB g) := fun F0 H0 ρ σ F H fps Q r q => by
  refine h.pk F0 H0 ρ σ F H fps _ r ((RP.bind q).imp (fun d hd v F' H' fp e rv f => ?_) fun _ z => z)
  cases d with
  | bl b => exact ⟨b, rv.1.blOf, hd F' H' e⟩
  | _ => exact (show False from hd).elim
theorem DE.cmp {op : CmpOp} {r : R2} {f : D → D → R D} (ho : OpR X (compareOp op) r) (hs : SO2 K r m f) (hx : ∀ x y e, f x y ≠ .exc e) (hm : behindInMarks op b = false) (ha : DE K E X Γ a ta ma ga) (hb : DE K E X Γ b tb mb gb) :
    DE K E X Γ (.Compare a [op] [b] pos) (tOp r ta tb) m (g2 f ga gb) := ⟨pe_cmpR ho ha.pe hb.pe hm, se_op hs hx ha.se.pk hb.se.pk⟩
theorem DT.cmp {op : CmpOp} {r : R2} {f : D → D → R D} (ho : OpR X (compareOp op) r) (hs : SO2 K r m f) (hx : ∀ x y e, f x y ≠ .exc e) (hm : behindInMarks op b = false) (ha : DE K E X Γ a ta ma ga) (hb : DE K E X Γ b tb mb gb) :
    DT K E X Γ (.Compare a [op] [b] pos) (tTest (tOp r ta tb)) (gB (g2 f ga gb)) := ⟨pt_cmpR ho ha.pe hb.pe hm, st_val (se_op hs hx ha.se.pk hb.se.pk)⟩
theorem de_lt (ha : DE K E X Γ a ta ma ga) (hb : DE K E X Γ b tb mb gb) : DE K E X Γ (.Compare a [.Lt] [b] pos) (tOp (rI0 fun i j => .bl (decide (i < j))) ta tb) .fr (g2 dLt ga gb) := DE.cmp op_lt so_B0 dB0_x (nomark _) ha hb
theorem de_le (ha : DE K E X Γ a ta ma ga) (hb : DE K E X Γ b tb mb gb) : DE K E X Γ (.Compare a [.LtE] [b] pos) (tOp (rI0 fun i j => .bl (decide (i ≤ j))) ta tb) .fr (g2 dLe ga gb) := DE.cmp op_le so_B0 dB0_x (nomark _) ha hb
theorem de_gt (ha : DE K E X Γ a ta ma ga) (hb : DE K E X Γ b tb mb gb) : DE K E X Γ (.Compare a [.Gt] [b] pos) (tOp (rI0 fun i j => .bl (decide (j < i))) ta tb) .fr (g2 dGt ga gb) := DE.cmp op_gt so_B0 dB0_x (nomark _) ha hb
theorem de_ge (ha : DE K E X Γ a ta ma ga) (hb : DE K E X Γ b tb mb gb) : DE K E X Γ (.Compare a [.GtE] [b] pos) (tOp (rI0 fun i j => .bl (decide (j ≤ i))) ta tb) .fr (g2 dGe ga gb) := DE.cmp op_ge so_B0 dB0_x (nomark _) ha hb
theorem dt_lt (ha : DE K E X Γ a ta ma ga) (hb : DE K E X Γ b tb mb gb) : DT K E X Γ (.Compare a [.Lt] [b] pos) (tTest (tOp (rI0 fun i j => .bl (decide (i < j))) ta tb)) (gB (g2 dLt ga gb)) := DT.cmp op_lt so_B0 dB0_x (nomark _) ha hb
theorem dt_le (ha : DE K E X Γ a ta ma ga) (hb : DE K E X Γ b tb mb gb) : DT K E X Γ (.Compare a [.LtE] [b] pos) (tTest (tOp (rI0 fun i j => .bl (decide (i ≤ j))) ta tb)) (gB (g2 dLe ga gb)) := DT.cmp op_le so_B0 dB0_x (nomark _) ha hb
theorem dt_gt (ha : DE K E X Γ a ta ma ga) (hb : DE K E X Γ b tb mb gb) : DT K E X Γ (.Compare a [.Gt] [b] pos) (tTest (tOp (rI0 fun i j => .bl (decide (j < i))) ta tb)) (gB (g2 dGt ga gb)) := DT.cmp op_gt so_B0 dB0_x (nomark _) ha hb
theorem dt_ge (ha : DE K E X Γ a ta ma ga) (hb : DE K E X Γ b tb mb gb) : DT K E X Γ (.Compare a [.GtE] [b] pos) (tTest (tOp (rI0 fun i j => .bl (decide (j ≤ i))) ta tb)) (gB (g2 dGe ga gb)) := DT.cmp op_ge so_B0 dB0_x (nomark _) ha hb
end

/-! ### == of data -/
mutual
def toP : D → PyData
  | .non => .none
  | .bl b => .bool b
  | .int i => .int i
  | .str x => .str x
  | .tup ds => .tuple (toPs ds)
  | .lst ds => .list (toPs ds)
  | .ob _ _ _ => .none
  | .cl _ => .none
  | .ex _ _ => .none
def toPs : List D → List PyData
  | [] => []
  | d :: ds => toP d :: toPs ds
end
mutual
/-- plain data: no object, no def -/
def pln : D → Bool
  | .tup ds => plns ds
  | .lst ds => plns ds
  | .ob _ _ _ => false
  | .cl _ => false
  | .ex _ _ => false
  | _ => true
def plns : List D → Bool
  | [] => true
  | d :: ds => pln d && plns ds
end
section
variable {K : PySem.W.Frag} {F H : Hp}
mutual
theorem Fz.dp (e : Same F H) : ∀ {v : V} {d : D}, Fz K F v d → pln d = true → Dp K H v (toP d)
  | _, _, .non, _ => .non
  | _, _, .bl b, _ => .bl b
  | _, _, .int i, _ => .int i
  | _, _, .str x, _ => .str x
  | _, _, .tup h hs, p => .tup (Same.sqt e h) (FzL.dp e hs p)
  | _, _, .lst h hs, p => .lst (e.seq h) (FzL.dp e hs p)
  | _, _, .ob _ _ _, p => nomatch p
  | _, _, .cl _, p => nomatch p
  | _, _, .ex _, p => nomatch p
  | _, _, .exr _ _ _, p => nomatch p
theorem FzL.dp (e : Same F H) : ∀ {vs : List V} {ds : List D}, FzL K F vs ds → plns ds = true → DpAll K H vs (toPs ds)
  | _, _, .nil, _ => .nil
  | _, _, .cons h hs, p => .cons (Fz.dp e h (Bool.and_eq_true_iff.mp p).1) (FzL.dp e hs (Bool.and_eq_true_iff.mp p).2)
end
mutual
theorem Bo.dp (e : Same F H) : ∀ {v : V} {d : D}, Bo K H F v d → pln d = true → Dp K H v (toP d)
  | _, _, .fz h, p => h.dp e p
  | _, _, .lst h hs, p => .lst h (BoL.dp e hs p)
  | _, _, .ob _ _ _, p => nomatch p
theorem BoL.dp (e : Same F H) : ∀ {vs : List V} {ds : List D}, BoL K H F vs ds → plns ds = true → DpAll K H vs (toPs ds)
  | _, _, .nil, _ => .nil
  | _, _, .cons h hs, p => .cons (Bo.dp e h (Bool.and_eq_true_iff.mp p).1) (BoL.dp e hs (Bool.and_eq_true_iff.mp p).2)
end
end
def eqOk (d : D) : Bool := pln d && SeqAt.shaped (toP d)
def dEq (x y : D) : R D := if (eqOk x && eqOk y) = true then .ok (.bl (PyData.eqv (toP x) (toP y))) else .bad
def dNe (x y : D) : R D := if (eqOk x && eqOk y) = true then .ok (.bl (!PyData.eqv (toP x) (toP y))) else .bad
theorem dEq_x : ∀ x y e, dEq x y ≠ .exc e := by
  intro x y e h
  unfold dEq at h
  split at h <;> exact nomatch h
theorem dNe_x : ∀ x y e, dNe x y ≠ .exc e := by
  intro x y e h
  unfold dNe at h
  split at h <;> exact nomatch h
theorem so_eq {K : PySem.W.Frag} : SO2 K (rEqD K) .fr dEq := by
  intro H0 F H x y dx dy Q eF e0 hx hy q
  obtain ⟨c, q⟩ := RP.ite q
  simp only [eqOk, Bool.and_eq_true] at c
  exact ⟨_, _, hx.dp eF c.1.1, hy.dp eF c.2.1, c.1.2, c.2.2, VP.old q eF (.bl _)⟩
theorem so_ne {K : PySem.W.Frag} : SO2 K (rNeD K) .fr dNe := by
  intro H0 F H x y dx dy Q eF e0 hx hy q
  obtain ⟨c, q⟩ := RP.ite q
  simp only [eqOk, Bool.and_eq_true] at c
  exact ⟨_, _, hx.dp eF c.1.1, hy.dp eF c.2.1, c.1.2, c.2.2, VP.old q eF (.bl _)⟩
/-- is None, is not None -/
def dIsN : D → D → R D
  | .non, .non => .ok (.bl true)
  | _, .non => .ok (.bl false)
  | _, _ => .bad
def dNotN : D → D → R D
  | .non, .non => .ok (.bl false)
  | _, .non => .ok (.bl true)
  | _, _ => .bad
omit [Tbs] in
theorem Bo.non_iff {K : PySem.W.Frag} {F H : Hp} {v : V} {d : D} (h : Bo K H F v d) : v = .non ↔ d = .non := by
  cases h with
  | fz h => cases h <;> simp
  | lst _ _ => simp
  | ob _ _ _ => simp
def rIsN : R2 := fun x y H Q => y = .non ∧ Q (.bl (decide (x = .non))) H
def rNotN : R2 := fun x y H Q => y = .non ∧ Q (.bl (!decide (x = .non))) H
theorem so_isN {K : PySem.W.Frag} : SO2 K rIsN .fr dIsN := by
  intro H0 F H x y dx dy Q eF e0 hx hy q
  cases dy with
  | non =>
    refine ⟨hy.nonOf, ?_⟩
    by_cases z : dx = .non
    · subst z
      rw [decide_eq_true hx.nonOf]
      exact VP.old q eF (.bl _)
    · rw [decide_eq_false fun w => z (hx.non_iff.mp w)]
      have q' : RP (.ok (.bl false)) (fun d => VP K H0 F H .fr d Q) (fun _ => False) := by
        cases dx <;> first | exact absurd rfl z | exact q
      exact VP.old q' eF (.bl _)
  | _ => cases dx <;> exact (show False from q).elim
theorem so_notN {K : PySem.W.Frag} : SO2 K rNotN .fr dNotN := by
  intro H0 F H x y dx dy Q eF e0 hx hy q
  cases dy with
  | non =>
    refine ⟨hy.nonOf, ?_⟩
    by_cases z : dx = .non
    · subst z
      rw [decide_eq_true hx.nonOf]
      exact VP.old q eF (.bl _)
    · rw [decide_eq_false fun w => z (hx.non_iff.mp w)]
      have q' : RP (.ok (.bl true)) (fun d => VP K H0 F H .fr d Q) (fun _ => False) := by
        cases dx <;> first | exact absurd rfl z | exact q
      exact VP.old q' eF (.bl _)
  | _ => cases dx <;> exact (show False from q).elim
omit [Tbs] in
theorem dIsN_x : ∀ x y e, dIsN x y ≠ .exc e := by
  intro x y e h
  cases x <;> cases y <;> exact nomatch h
omit [Tbs] in
theorem dNotN_x : ∀ x y e, dNotN x y ≠ .exc e := by
  intro x y e h
  cases x <;> cases y <;> exact nomatch h
section
variable {K : PySem.W.Frag} {E : XK} {X : Cx} {Γ : List M} {e a b c : Expr} {t ta tb tc : TE} {m ma mb : M} {g ga gb : List D → R D} {pos : Pos} {k : Nat}
theorem de_eq (U : Uni K E k X) (ha : DE K E X Γ a ta ma ga) (hb : DE K E X Γ b tb mb gb) : DE K E X Γ (.Compare a [.Eq] [b] pos) (tOp (rEqD K) ta tb) .fr (g2 dEq ga gb) := by
  have e := U.K
  subst e
  exact DE.cmp (op_eqD U.hu) so_eq dEq_x (nomark _) ha hb
theorem de_ne (U : Uni K E k X) (ha : DE K E X Γ a ta ma ga) (hb : DE K E X Γ b tb mb gb) : DE K E X Γ (.Compare a [.NotEq] [b] pos) (tOp (rNeD K) ta tb) .fr (g2 dNe ga gb) := by
  have e := U.K
  subst e
  exact DE.cmp (op_neD U.hu) so_ne dNe_x (nomark _) ha hb
theorem dt_eq (U : Uni K E k X) (ha : DE K E X Γ a ta ma ga) (hb : DE K E X Γ b tb mb gb) : DT K E X Γ (.Compare a [.Eq] [b] pos) (tTest (tOp (rEqD K) ta tb)) (gB (g2 dEq ga gb)) := by
  have e := U.K
  subst e
  exact DT.cmp (op_eqD U.hu) so_eq dEq_x (nomark _) ha hb
theorem dt_ne (U : Uni K E k X) (ha : DE K E X Γ a ta ma ga) (hb : DE K E X Γ b tb mb gb) : DT K E X Γ (.Compare a [.NotEq] [b] pos) (tTest (tOp (rNeD K) ta tb)) (gB (g2 dNe ga gb)) := by
  have e := U.K
  subst e
  exact DT.cmp (op_neD U.hu) so_ne dNe_x (nomark _) ha hb
theorem de_isN (ha : DE K E X Γ a ta ma ga) (hb : DE K E X Γ b tb mb gb) : DE K E X Γ (.Compare a [.Is] [b] pos) (tOp rIsN ta tb) .fr (g2 dIsN ga gb) := DE.cmp op_isN so_isN dIsN_x (nomark _) ha hb
theorem de_notN (ha : DE K E X Γ a ta ma ga) (hb : DE K E X Γ b tb mb gb) : DE K E X Γ (.Compare a [.IsNot] [b] pos) (tOp rNotN ta tb) .fr (g2 dNotN ga gb) := DE.cmp op_notN so_notN dNotN_x (nomark _) ha hb
theorem dt_isN (ha : DE K E X Γ a ta ma ga) (hb : DE K E X Γ b tb mb gb) : DT K E X Γ (.Compare a [.Is] [b] pos) (tTest (tOp rIsN ta tb)) (gB (g2 dIsN ga gb)) := DT.cmp op_isN so_isN dIsN_x (nomark _) ha hb
theorem dt_notN (ha : DE K E X Γ a ta ma ga) (hb : DE K E X Γ b tb mb gb) : DT K E X Γ (.Compare a [.IsNot] [b] pos) (tTest (tOp rNotN ta tb)) (gB (g2 dNotN ga gb)) := DT.cmp op_notN so_notN dNotN_x (nomark _) ha hb
end
end DL
/-! DLe: tests, displays, calls of defs. -/
namespace DL
open PySem L2
variable [Tbs]

section
variable {K : PySem.W.Frag} {E : XK} {X : Cx} {Γ : List M} {e a b c : Expr} {es rest : List Expr} {t ta tb tc : TE} {tA tB : TT} {m ma mb : M} {g ga gb : List D → R D} {hA hB : List D → R Bool} {pos : Pos} {k : Nat}
/-! ### and, or, not, if else -/
structure DW (K : PySem.W.Frag) (E : XK) (X : Cx) (Γ : List M) (e : Expr) (t : TT) (g : List D → R Bool) : Prop where
  pw : PW X e t
  st : ST K E Γ t g
theorem DW.dt (h : DW K E X Γ e tA hA) : DT K E X Γ e tA hA := ⟨h.pw.pt, h.st⟩
def gAnd (a b : List D → R Bool) : List D → R Bool := fun ρ => a ρ >>= fun c => if c = true then b ρ else .ok false
def gOr (a b : List D → R Bool) : List D → R Bool := fun ρ => a ρ >>= fun c => if c = true then .ok true else b ρ
def gNot (a : List D → R Bool) : List D → R Bool := fun ρ => a ρ >>= fun c => .ok (!c)
def gIf (c : List D → R Bool) (a b : List D → R D) : List D → R D := fun ρ => c ρ >>= fun k => if k = true then a ρ else b ρ
omit [Tbs] in
theorem ite_tt {p : Bool} {A B : Prop} (h : p = true → A) (h' : p = false → B) : if p = true then A else B := by
  cases p with
  | true => rw [if_pos rfl]; exact h rfl
  | false => rw [if_neg Bool.false_ne_true]; exact h' rfl
theorem st_and (h1 : ST K E Γ tA hA) (h2 : ST K E Γ tB hB) : ST K E Γ (tAnd tA tB) (gAnd hA hB) := fun F0 H0 ρ σ F H fps Q r q =>
  h1 F0 H0 ρ σ F H fps _ r ((RP.bind q).imp (fun c hc F' H' x => ite_tt (fun e => by
    subst e
    exact h2 F0 H0 ρ σ F' H' fps Q (r.ext x) (RP.imp (show RP (hB ρ) _ _ from hc) (fun b hb F2 H2 y => hb F2 H2 (x.trans y)) fun _ z => z.on x)) fun e => by
    subst e
    exact (show RP (R.ok false) _ _ from hc) F' H' x) fun _ z => z)
theorem st_or (h1 : ST K E Γ tA hA) (h2 : ST K E Γ tB hB) : ST K E Γ (tOr tA tB) (gOr hA hB) := fun F0 H0 ρ σ F H fps Q r q =>
  h1 F0 H0 ρ σ F H fps _ r ((RP.bind q).imp (fun c hc F' H' x => ite_tt (fun e => by
    subst e
    exact (show RP (R.ok true) _ _ from hc) F' H' x) fun e => by
    subst e
    exact h2 F0 H0 ρ σ F' H' fps Q (r.ext x) (RP.imp (show RP (hB ρ) _ _ from hc) (fun b hb F2 H2 y => hb F2 H2 (x.trans y)) fun _ z => z.on x)) fun _ z => z)
theorem st_not (h1 : ST K E Γ tA hA) : ST K E Γ (tNot tA) (gNot hA) := fun F0 H0 ρ σ F H fps Q r q =>
  h1 F0 H0 ρ σ F H fps _ r ((RP.bind q).imp (fun c hc F' H' x => hc F' H' x) fun _ z => z)
theorem dw_and1 (h : DT K E X Γ a tA hA) : DW K E X Γ (.BoolOp .And [a] pos) tA hA := ⟨pw_and1 h.pt, h.st⟩
theorem dw_or1 (h : DT K E X Γ a tA hA) : DW K E X Γ (.BoolOp .Or [a] pos) tA hA := ⟨pw_or1 h.pt, h.st⟩
theorem dw_and (h : DT K E X Γ a tA hA) (h2 : DW K E X Γ (.BoolOp .And (b :: rest) pos) tB hB) : DW K E X Γ (.BoolOp .And (a :: b :: rest) pos) (tAnd tA tB) (gAnd hA hB) := ⟨pw_and h.pt h2.pw, st_and h.st h2.st⟩
theorem dw_or (h : DT K E X Γ a tA hA) (h2 : DW K E X Γ (.BoolOp .Or (b :: rest) pos) tB hB) : DW K E X Γ (.BoolOp .Or (a :: b :: rest) pos) (tOr tA tB) (gOr hA hB) := ⟨pw_or h.pt h2.pw, st_or h.st h2.st⟩
theorem dt_not (h : DT K E X Γ a tA hA) : DT K E X Γ (.UnaryOp .Not a pos) (tNot tA) (gNot hA) := ⟨pt_not h.pt, st_not h.st⟩
/-- a value that is a truth, as a test -/
theorem dt_val (h : DE K E X Γ e t m g) (he : ∀ whole, isTrue e X.env whole = (do let v ← whole; standAt e.pos; holding [v] (truthy v)) := by intro _; rfl) : DT K E X Γ e (L2.tB t) (gB g) := ⟨pt_val h.pe he, st_val h.se⟩
theorem se_if (hc : ST K E Γ tA hA) (h1 : SE K E Γ ta m ga) (h2 : SE K E Γ tb m gb) : SE K E Γ (tIf tA ta tb) m (gIf hA ga gb) := fun F0 H0 ρ σ F H fps Q r q =>
  hc F0 H0 ρ σ F H fps _ r ((RP.bind q).imp (fun c hc F' H' x => ite_tt (fun e => by
    subst e
    exact h1 F0 H0 ρ σ F' H' fps Q (r.ext x) (RP.imp (show RP (ga ρ) _ _ from hc) (fun d hd => hd.on x) fun _ z => z.on x)) fun e => by
    subst e
    exact h2 F0 H0 ρ σ F' H' fps Q (r.ext x) (RP.imp (show RP (gb ρ) _ _ from hc) (fun d hd => hd.on x) fun _ z => z.on x)) fun _ z => z)
theorem de_if (hc : DT K E X Γ c tA hA) (h1 : DE K E X Γ a ta m ga) (h2 : DE K E X Γ b tb m gb) : DE K E X Γ (.IfExp c a b pos) (tIf tA ta tb) m (gIf hA ga gb) := ⟨pe_ifExp hc.pt h1.pe h2.pe, se_if hc.st h1.se h2.se⟩
/-- and, or, not as values: all truths -/
def toBl (g : List D → R Bool) : List D → R D := fun ρ => g ρ >>= fun b => .ok (.bl b)
theorem se_and (h1 : SE K E Γ ta m ga) (h2 : SE K E Γ tb mb gb) : SE K E Γ (tAndV ta tb) .fr (toBl (gAnd (gB ga) (gB gb))) := fun F0 H0 ρ σ F H fps Q r q => by
  refine h1.pk F0 H0 ρ σ F H fps _ r ((RP.bind (RP.bind (RP.bind q))).imp (fun d hd v F' H' fp e rv f => ?_) fun _ z => z)
  cases d with
  | bl c =>
    obtain rfl := rv.1.blOf
    refine ⟨c, rfl, ?_⟩
    cases c with
    | true =>
      rw [if_pos rfl]
      refine h2.pk F0 H0 ρ σ F' H' fps _ (r.ext e) ((RP.bind (show RP (gB gb ρ) (fun a => RP (R.ok (D.bl a)) (fun d => VP K H0 F H M.fr d Q) (XP K E F H)) (XP K E F H) from hd)).imp (fun d2 hd2 v2 F2 H2 fp2 e2 rv2 f2 => ?_) fun _ z => z.on e)
      cases d2 with
      | bl c2 =>
        obtain rfl := rv2.1.blOf
        exact VP.old (VP.on (VP.on (show VP K H0 F H .fr (.bl c2) Q from hd2) e) e2) e2.fh (.bl _)
      | _ => exact (show False from hd2).elim
    | false =>
      rw [if_neg Bool.false_ne_true]
      exact VP.old (VP.on (show VP K H0 F H .fr (.bl false) Q from hd) e) e.fh (.bl _)
  | _ => exact (show False from hd).elim
theorem se_or (h1 : SE K E Γ ta m ga) (h2 : SE K E Γ tb mb gb) : SE K E Γ (tOrV ta tb) .fr (toBl (gOr (gB ga) (gB gb))) := fun F0 H0 ρ σ F H fps Q r q => by
  refine h1.pk F0 H0 ρ σ F H fps _ r ((RP.bind (RP.bind (RP.bind q))).imp (fun d hd v F' H' fp e rv f => ?_) fun _ z => z)
  cases d with
  | bl c =>
    obtain rfl := rv.1.blOf
    refine ⟨c, rfl, ?_⟩
    cases c with
    | false =>
      rw [if_neg Bool.false_ne_true]
      refine h2.pk F0 H0 ρ σ F' H' fps _ (r.ext e) ((RP.bind (show RP (gB gb ρ) (fun a => RP (R.ok (D.bl a)) (fun d => VP K H0 F H M.fr d Q) (XP K E F H)) (XP K E F H) from hd)).imp (fun d2 hd2 v2 F2 H2 fp2 e2 rv2 f2 => ?_) fun _ z => z.on e)
      cases d2 with
      | bl c2 =>
        obtain rfl := rv2.1.blOf
        exact VP.old (VP.on (VP.on (show VP K H0 F H .fr (.bl c2) Q from hd2) e) e2) e2.fh (.bl _)
      | _ => exact (show False from hd2).elim
    | true =>
      rw [if_pos rfl]
      exact VP.old (VP.on (show VP K H0 F H .fr (.bl true) Q from hd) e) e.fh (.bl _)
  | _ => exact (show False from hd).elim
theorem se_not (h1 : SE K E Γ ta m ga) : SE K E Γ (tNotV ta) .fr (toBl (gNot (gB ga))) := fun F0 H0 ρ σ F H fps Q r q => by
  refine h1.pk F0 H0 ρ σ F H fps _ r ((RP.bind (RP.bind (RP.bind q))).imp (fun d hd v F' H' fp e rv f => ?_) fun _ z => z)
  cases d with
  | bl c =>
    obtain rfl := rv.1.blOf
    exact ⟨c, rfl, VP.old (VP.on (show VP K H0 F H .fr (.bl (!c)) Q from hd) e) e.fh (.bl _)⟩
  | _ => exact (show False from hd).elim
theorem de_one {op : BoolOp} (h : DE K E X Γ a ta m ga) : DE K E X Γ (.BoolOp op [a] pos) ta m ga := ⟨pe_one h.pe, h.se⟩
theorem de_and (h1 : DE K E X Γ a ta m ga) (h2 : DE K E X Γ (.BoolOp .And (b :: rest) pos) tb mb gb) : DE K E X Γ (.BoolOp .And (a :: b :: rest) pos) (tAndV ta tb) .fr (toBl (gAnd (gB ga) (gB gb))) := ⟨L2.pe_and h1.pe h2.pe, se_and h1.se h2.se⟩
theorem de_or (h1 : DE K E X Γ a ta m ga) (h2 : DE K E X Γ (.BoolOp .Or (b :: rest) pos) tb mb gb) : DE K E X Γ (.BoolOp .Or (a :: b :: rest) pos) (tOrV ta tb) .fr (toBl (gOr (gB ga) (gB gb))) := ⟨L2.pe_or h1.pe h2.pe, se_or h1.se h2.se⟩
theorem de_not (h1 : DE K E X Γ a ta m ga) : DE K E X Γ (.UnaryOp .Not a pos) (tNotV ta) .fr (toBl (gNot (gB ga))) := ⟨L2.pe_not h1.pe, se_not h1.se⟩
/-- -a -/
def dNeg : D → R D
  | .int i => .ok (.int (-i))
  | _ => .bad
theorem se_neg (h : SE K E Γ ta m ga) : SE K E Γ (tUn (rU fun i => .int (-i)) ta) .fr (g1 dNeg ga) := fun F0 H0 ρ σ F H fps Q r q => by
  refine h.pk F0 H0 ρ σ F H fps _ r ((RP.bind q).imp (fun d hd v F' H' fp e rv f => ?_) fun _ z => z)
  cases d with
  | int i => exact ⟨i, rv.1.intOf, VP.old (VP.on (show VP K H0 F H .fr (.int (-i)) Q from hd) e) e.fh (.int _)⟩
  | _ => exact (show False from hd).elim
theorem de_neg (h : DE K E X Γ a ta m ga) : DE K E X Γ (.UnaryOp .USub a pos) (tUn (rU fun i => .int (-i)) ta) .fr (g1 dNeg ga) := ⟨pe_un un_neg h.pe, se_neg h.se⟩
/-- a op b op c of ints -/
def dChain (f f' : Int → Int → Bool) : D → D → R D → R D
  | .int i, .int j, z => if f i j = true then z >>= fun
      | .int l => .ok (.bl (f' j l))
      | _ => .bad
    else .ok (.bl false)
  | _, _, _ => .bad
def gChain (f f' : Int → Int → Bool) (ga gb gc : List D → R D) : List D → R D := fun ρ => ga ρ >>= fun x => gb ρ >>= fun y => dChain f f' x y (gc ρ)
theorem se_chain {f f' : Int → Int → Bool} {mc : M} {gc : List D → R D} (h1 : SE K E Γ ta m ga) (h2 : SE K E Γ tb mb gb) (h3 : SE K E Γ tc mc gc) : SE K E Γ (tChain (rI0 fun i j => .bl (f i j)) (rI0 fun i j => .bl (f' i j)) ta tb tc) .fr (gChain f f' ga gb gc) := fun F0 H0 ρ σ F H fps Q r q => by
  refine h1.pk F0 H0 ρ σ F H fps _ r ((RP.bind q).imp (fun d hd v F1 H1 fp e1 rv _ => ?_) fun _ z => z)
  refine h2.pk F0 H0 ρ σ F1 H1 fps _ (r.ext e1) ((RP.bind hd).imp (fun d2 hd2 v2 F2 H2 fp2 e2 rv2 _ => ?_) fun _ z => z.on e1)
  cases d with
  | int i =>
    cases d2 with
    | int j =>
      refine ⟨i, j, rv.1.intOf, rv2.1.intOf, f i j, rfl, ite_tt (fun e => ?_) fun e => ?_⟩
      · rw [show dChain f f' (.int i) (.int j) (gc ρ) = _ from if_pos e] at hd2
        refine h3.pk F0 H0 ρ σ F2 H2 fps _ ((r.ext e1).ext e2) ((RP.bind hd2).imp (fun d3 hd3 v3 F3 H3 fp3 e3 rv3 _ => ?_) fun _ z => (z.on e1).on e2)
        cases d3 with
        | int l => exact ⟨j, l, rv2.1.intOf, rv3.1.intOf, VP.old (VP.on (VP.on (VP.on (show VP K H0 F H .fr (.bl (f' j l)) Q from hd3) e1) e2) e3) e3.fh (.bl _)⟩
        | _ => exact (show False from hd3).elim
      · rw [show dChain f f' (.int i) (.int j) (gc ρ) = _ from if_neg (by rw [e]; exact Bool.false_ne_true)] at hd2
        exact VP.old (VP.on (VP.on (show VP K H0 F H .fr (.bl false) Q from hd2) e1) e2) e2.fh (.bl _)
    | _ => exact (show False from hd2).elim
  | _ => cases d2 <;> exact (show False from hd2).elim
def oLt : Int → Int → Bool := fun i j => decide (i < j)
def oLe : Int → Int → Bool := fun i j => decide (i ≤ j)
theorem de_lele {mc : M} {gc : List D → R D} (h1 : DE K E X Γ a ta m ga) (h2 : DE K E X Γ b tb mb gb) (h3 : DE K E X Γ c tc mc gc) (hm : lastMarks [.LtE, .LtE] [b, c] = false := by with_unfolding_all rfl) : DE K E X Γ (.Compare a [.LtE, .LtE] [b, c] pos) (tChain (rI0 fun i j => .bl (oLe i j)) (rI0 fun i j => .bl (oLe i j)) ta tb tc) .fr (gChain oLe oLe ga gb gc) :=
  ⟨pe_chain op_le op_le h1.pe h2.pe h3.pe hm, se_chain h1.se h2.se h3.se⟩
theorem dt_lele {mc : M} {gc : List D → R D} (h1 : DE K E X Γ a ta m ga) (h2 : DE K E X Γ b tb mb gb) (h3 : DE K E X Γ c tc mc gc) (hm : lastMarks [.LtE, .LtE] [b, c] = false := by with_unfolding_all rfl) : DT K E X Γ (.Compare a [.LtE, .LtE] [b, c] pos) (tTest (tChain (rI0 fun i j => .bl (oLe i j)) (rI0 fun i j => .bl (oLe i j)) ta tb tc)) (gB (gChain oLe oLe ga gb gc)) :=
  ⟨pt_chain op_le op_le h1.pe h2.pe h3.pe hm, st_val (se_chain h1.se h2.se h3.se)⟩
theorem de_lelt {mc : M} {gc : List D → R D} (h1 : DE K E X Γ a ta m ga) (h2 : DE K E X Γ b tb mb gb) (h3 : DE K E X Γ c tc mc gc) (hm : lastMarks [.LtE, .Lt] [b, c] = false := by with_unfolding_all rfl) : DE K E X Γ (.Compare a [.LtE, .Lt] [b, c] pos) (tChain (rI0 fun i j => .bl (oLe i j)) (rI0 fun i j => .bl (oLt i j)) ta tb tc) .fr (gChain oLe oLt ga gb gc) :=
  ⟨pe_chain op_le op_lt h1.pe h2.pe h3.pe hm, se_chain h1.se h2.se h3.se⟩
theorem dt_lelt {mc : M} {gc : List D → R D} (h1 : DE K E X Γ a ta m ga) (h2 : DE K E X Γ b tb mb gb) (h3 : DE K E X Γ c tc mc gc) (hm : lastMarks [.LtE, .Lt] [b, c] = false := by with_unfolding_all rfl) : DT K E X Γ (.Compare a [.LtE, .Lt] [b, c] pos) (tTest (tChain (rI0 fun i j => .bl (oLe i j)) (rI0 fun i j => .bl (oLt i j)) ta tb tc)) (gB (gChain oLe oLt ga gb gc)) :=
  ⟨pt_chain op_le op_lt h1.pe h2.pe h3.pe hm, st_val (se_chain h1.se h2.se h3.se)⟩
theorem de_ltlt {mc : M} {gc : List D → R D} (h1 : DE K E X Γ a ta m ga) (h2 : DE K E X Γ b tb mb gb) (h3 : DE K E X Γ c tc mc gc) (hm : lastMarks [.Lt, .Lt] [b, c] = false := by with_unfolding_all rfl) : DE K E X Γ (.Compare a [.Lt, .Lt] [b, c] pos) (tChain (rI0 fun i j => .bl (oLt i j)) (rI0 fun i j => .bl (oLt i j)) ta tb tc) .fr (gChain oLt oLt ga gb gc) :=
  ⟨pe_chain op_lt op_lt h1.pe h2.pe h3.pe hm, se_chain h1.se h2.se h3.se⟩

/-! ### displays -/
/-- values of one mode, with what they own -/
def SU (K : PySem.W.Frag) (E : XK) (Γ : List M) (t : TA) (m : M) (g : List D → R (List D)) : Prop :=
  ∀ F0 H0 ρ σ F H fps Q, Rel K F0 H0 Γ ρ σ F H fps → RP (g ρ) (fun ds => ∀ vs F' H' fp, Ext F H F' H' → Al (Rv K H0 F' H' m) vs ds fp → Fresh H F' fp → Q vs H') (XP K E F H) → t σ H Q
structure DU (K : PySem.W.Frag) (E : XK) (X : Cx) (Γ : List M) (es : List Expr) (t : TA) (m : M) (g : List D → R (List D)) : Prop where
  pa : PA X es t
  su : SU K E Γ t m g
def gsN : List D → R (List D) := fun _ => .ok []
def gsC (ga : List D → R D) (gr : List D → R (List D)) : List D → R (List D) := fun ρ => ga ρ >>= fun x => gr ρ >>= fun xs => .ok (x :: xs)
theorem du_nil : DU K E X Γ [] tNil m gsN := ⟨pa_nil, fun F0 H0 ρ σ F H fps Q r q => q [] F H [] (Ext.refl r.fh) rfl Fresh.nil⟩
theorem su_cons {tr : TA} {gr : List D → R (List D)} (h : SE K E Γ t m g) (h2 : SU K E Γ tr m gr) : SU K E Γ (tCons t tr) m (gsC g gr) := fun F0 H0 ρ σ F H fps Q r q => by
  refine h F0 H0 ρ σ F H fps _ r ((RP.bind q).imp (fun d hd v F1 H1 fp e1 rv f1 => ?_) fun _ z => z)
  refine h2 F0 H0 ρ σ F1 H1 fps _ (r.ext e1) ((RP.bind hd).imp (fun ds hds vs F2 H2 fp2 e2 rv2 f2 => ?_) fun _ z => z.on e1)
  refine hds (v :: vs) F2 H2 (fp ++ fp2) (e1.trans e2) ⟨fp, fp2, rfl, rv.grow e2.f e2.h, rv2⟩ ⟨List.nodup_append.mpr ⟨f1.nd, f2.nd, fun a ha b hb e => ?_⟩, fun a ha => ?_⟩
  · subst e
    obtain ⟨o, z⟩ := rv.there a ha
    rw [(f2.un a hb).1] at z; cases z
  · rcases List.mem_append.mp ha with z | z
    · exact (f1.on e2 rv.there).un a z
    · exact ⟨e1.h.free (f2.un a z).1, (f2.un a z).2⟩
theorem du_cons {tr : TA} {gr : List D → R (List D)} (h : DE K E X Γ e t m g) (h2 : DU K E X Γ es tr m gr) (hs : starEach (e :: es) X.env = (false, eval e X.env) :: starEach es X.env := by rfl) : DU K E X Γ (e :: es) (tCons t tr) m (gsC g gr) := ⟨pa_cons h.pe h2.pa hs, su_cons h.se h2.su⟩
def dTup (ds : List D) : R D := if ds.length ≤ sizeLine then .ok (.tup ds) else .bad
def dLst (ds : List D) : R D := if ds.length ≤ sizeLine then .ok (.lst ds) else .bad
def gAll (f : List D → R D) (g : List D → R (List D)) : List D → R D := fun ρ => g ρ >>= f
theorem de_tup {tr : TA} {gr : List D → R (List D)} {x1} (h : DU K E X Γ es tr .fr gr) : DE K E X Γ (.Tuple es x1 pos) (tTup tr) .fr (gAll dTup gr) := ⟨pe_tup h.pa, fun F0 H0 ρ σ F H fps Q r q => by
  refine h.su F0 H0 ρ σ F H fps _ r ((RP.bind q).imp (fun ds hds vs F' H' fp e rv f => ?_) fun _ z => z)
  obtain ⟨c, hds⟩ := RP.ite hds
  obtain ⟨rv, _⟩ := rv.fr
  exact ⟨by rw [rv.length]; exact c, fun p hp => VP.newT (VP.on hds e) e.fh hp rv⟩⟩
theorem de_lst {tr : TA} {gr : List D → R (List D)} (h : DU K E X Γ es tr m gr) : DE K E X Γ (.List es pos) (tLst tr) (.ow m) (gAll dLst gr) := ⟨pe_lst h.pa, fun F0 H0 ρ σ F H fps Q r q => by
  refine h.su F0 H0 ρ σ F H fps _ r ((RP.bind q).imp (fun ds hds vs F' H' fp e rv f => ?_) fun _ z => z)
  obtain ⟨c, hds⟩ := RP.ite hds
  refine ⟨by rw [rv.length]; exact c, fun p hp => hds (.ref p) F' _ (p :: fp) (e.trans (Ext.made e.fh hp)) ⟨p, vs, fp, rfl, upd_same, rv.imp fun v d f _ q => q.grow (Same.refl _) (Ext.made (o := HO.lst vs) e.fh hp).h, rfl⟩ ⟨List.nodup_cons.mpr ⟨fun z => ?_, f.nd⟩, fun a ha => ?_⟩⟩
  · obtain ⟨o, w⟩ := Al.there (P := fun a => ∃ o, H' a = some o) (fun v d f h => h.there) rv p z
    rw [hp] at w; cases w
  · rcases List.mem_cons.mp ha with z | z
    · subst z; exact ⟨e.h.free hp, e.fh.free hp⟩
    · exact f.un a z⟩
end
end DL
/-! DLf: statements, loops, defs, calls. -/
namespace DL
open PySem L2
variable [Tbs]

/-! ### statements -/
inductive Fl where
  | nx (ρ : List D)
  | rt (d : D)
  | bk (ρ : List D)
  | ct (ρ : List D)
/-- how a return's value stands; io r m sv: r, and what is at sv as it is left -/
def RvR (K : PySem.W.Frag) (H0 F H : Hp) : M → V → D → List Addr → Prop
  | .io r m sv, v, .tup [d, e], fp => ∃ f1 f2, fp = f1 ++ f2 ∧ RvR K H0 F H r v d f1 ∧ Rv K H0 F H m sv e f2
  | .io _ _ _, _, _, _ => False
  | m, v, d, fp => Rv K H0 F H m v d fp
omit [Tbs] in
theorem RvR.of {K : PySem.W.Frag} {H0 F H : Hp} {m : M} {v : V} {d : D} {fp : List Addr} (h : Rv K H0 F H m v d fp) : RvR K H0 F H m v d fp := by
  cases m with
  | io r m sv => exact (show False from h).elim
  | _ => exact h
omit [Tbs] in
theorem RvR.to {K : PySem.W.Frag} {H0 F H : Hp} {m : M} {v : V} {d : D} {fp : List Addr} (hm : m.fz = true) (h : RvR K H0 F H m v d fp) : Rv K H0 F H m v d fp := by
  cases m with
  | io r m sv => cases hm
  | _ => exact h
/-- what is wanted behind a statement: n, b, c: how the slots stand where it goes on, breaks, continues; r: the returned value's mode -/
def FP (K : PySem.W.Frag) (F0 H0 F : Hp) (n b c : List M) (r : M) (N : Ends) : Fl → Prop
  | .nx ρ => ∀ σ' F' H' fps', Same F F' → Rel K F0 H0 n ρ σ' F' H' fps' → N.nx σ' H'
  | .bk ρ => ∀ σ' F' H' fps', Same F F' → Rel K F0 H0 b ρ σ' F' H' fps' → N.bk σ' H'
  | .ct ρ => ∀ σ' F' H' fps', Same F F' → Rel K F0 H0 c ρ σ' F' H' fps' → N.ct σ' H'
  | .rt d => ∀ v F' H' fp, Ext F0 H0 F' H' → RvR K H0 F' H' r v d fp → Fresh H0 F' fp → N.rt v H'
def SS (K : PySem.W.Frag) (E : XK) (Γ n b c : List M) (r : M) (t : TS) (g : List D → R Fl) : Prop :=
  ∀ F0 H0 ρ σ F H fps N, Rel K F0 H0 Γ ρ σ F H fps → RP (g ρ) (FP K F0 H0 F n b c r N) (XP K E F0 H0) → t N σ H
structure DS (K : PySem.W.Frag) (E : XK) (X : Cx) (Γ : List M) (s : Stmt) (t : TS) (n b c : List M) (r : M) (g : List D → R Fl) : Prop where
  ps : PS X s t
  ss : SS K E Γ n b c r t g
structure DSs (K : PySem.W.Frag) (E : XK) (X : Cx) (Γ : List M) (s : List Stmt) (t : TS) (n b c : List M) (r : M) (g : List D → R Fl) : Prop where
  ps : PSs X s t
  ss : SS K E Γ n b c r t g
section
variable {K : PySem.W.Frag} {F0 H0 F H : Hp} {Γ : List M} {ρ : List D} {σ : St} {fps : Nat → List Addr}
theorem Rel.x0 (r : Rel K F0 H0 Γ ρ σ F H fps) : Ext F0 H0 F H := ⟨r.f0, r.h0, r.fh, r.new, fun _ => r.tb⟩
theorem FP.on {F1 : Hp} {n b c : List M} {r : M} {N : Ends} {fl : Fl} (h : FP K F0 H0 F n b c r N fl) (e : Same F F1) : FP K F0 H0 F1 n b c r N fl := by
  cases fl with
  | nx ρ => exact fun σ' F' H' fps' s q => h σ' F' H' fps' (e.trans s) q
  | bk ρ => exact fun σ' F' H' fps' s q => h σ' F' H' fps' (e.trans s) q
  | ct ρ => exact fun σ' F' H' fps' s q => h σ' F' H' fps' (e.trans s) q
  | rt d => exact h
end
def gNx : List D → R Fl := fun ρ => .ok (.nx ρ)
def gSeq (a b : List D → R Fl) : List D → R Fl := fun ρ => a ρ >>= fun
  | .nx ρ' => b ρ'
  | o => .ok o
def gSet (i : Nat) (g : List D → R D) : List D → R Fl := fun ρ => g ρ >>= fun d => .ok (.nx (ρ.set i d))
def gDrop (g : List D → R D) : List D → R Fl := fun ρ => g ρ >>= fun _ => .ok (.nx ρ)
def gRet (g : List D → R D) : List D → R Fl := fun ρ => g ρ >>= fun d => .ok (.rt d)
def gIte (c : List D → R Bool) (a b : List D → R Fl) : List D → R Fl := fun ρ => c ρ >>= fun k => if k = true then a ρ else b ρ
section
variable {K : PySem.W.Frag} {E : XK} {X : Cx} {Γ Γ' n n' b c : List M} {r : M} {st : Stmt} {sts : List Stmt} {t u : TS} {g g' : List D → R Fl} {pos : Pos} {k : Nat}
/-! blocks -/
theorem ss_nx : SS K E Γ Γ b c r tNext gNx := fun F0 H0 ρ σ F H fps N rel q => q σ F H fps (Same.refl _) rel
theorem dss_nil : DSs K E X Γ [] tNext Γ b c r gNx := ⟨pss_nil, ss_nx⟩
theorem ds_pass : DS K E X Γ (.Pass pos) tNext Γ b c r gNx := ⟨ps_pass, ss_nx⟩
theorem ds_doc {x j pos'} : DS K E X Γ (.Expr (.Constant (.str x) j pos) pos') tNext Γ b c r gNx := ⟨ps_doc, ss_nx⟩
theorem ss_seq (h : SS K E Γ n b c r t g) (h2 : SS K E n n' b c r u g') : SS K E Γ n' b c r (tSeq t u) (gSeq g g') := fun F0 H0 ρ σ F H fps N rel q => by
  refine h F0 H0 ρ σ F H fps _ rel ((RP.bind q).imp (fun fl hf => ?_) fun _ z => z)
  cases fl with
  | nx ρ' => exact fun σ' F' H' fps' s r' => h2 F0 H0 ρ' σ' F' H' fps' N r' (RP.imp (show RP (g' ρ') _ _ from hf) (fun fl h => h.on s) fun _ z => z)
  | rt d => exact hf
  | bk ρ' => exact hf
  | ct ρ' => exact hf
theorem dss_cons (h : DS K E X Γ st t n b c r g) (h2 : DSs K E X n sts u n' b c r g') : DSs K E X Γ (st :: sts) (tSeq t u) n' b c r (gSeq g g') := ⟨pss_cons h.ps h2.ps, ss_seq h.ss h2.ss⟩
theorem dss_one (h : DS K E X Γ st t n b c r g) : DSs K E X Γ [st] t n b c r g := ⟨pss_one h.ps, h.ss⟩
/-! how slots stand: less is known -/
inductive Wk : List M → List M → Prop
  | refl {Γ : List M} : Wk Γ Γ
  | frz {Γ Γ' : List M} {m : M} (i : Nat) : Γ[i]? = some m → m.fz = true → Wk (Γ.set i .fr) Γ' → Wk Γ Γ'
  | un {Γ Γ' : List M} {m : M} (i : Nat) : Γ[i]? = some m → Wk (Γ.set i .un) Γ' → Wk Γ Γ'
theorem Rel.weak {F0 H0 : Hp} {ρ : List D} {σ : St} (w : Wk Γ Γ') : ∀ {F H : Hp} {fps : Nat → List Addr}, Rel K F0 H0 Γ ρ σ F H fps → ∃ F' fps', Same F F' ∧ Rel K F0 H0 Γ' ρ σ F' H fps' := by
  induction w with
  | refl => exact fun r => ⟨_, _, Same.refl _, r⟩
  | frz i h hm _ ih =>
    intro F H fps r
    obtain ⟨F', fps', s, r'⟩ := ih (r.freeze h hm)
    exact ⟨F', fps', (frz_same fun a ha => (r.ow i a ha).1).trans s, r'⟩
  | un i h _ ih =>
    intro F H fps r
    obtain ⟨F', fps', s, r'⟩ := ih (r.forget h)
    exact ⟨F', fps', s, r'⟩
/-- ahead of a statement -/
theorem ss_pre (w : Wk Γ Γ') (h : SS K E Γ' n b c r t g) : SS K E Γ n b c r t g := fun F0 H0 ρ σ F H fps N rel q => by
  obtain ⟨F', fps', s, r'⟩ := rel.weak w
  exact h F0 H0 ρ σ F' H fps' N r' (q.imp (fun fl hf => hf.on s) fun _ z => z)
/-- behind it -/
theorem ss_post (w : Wk n n') (h : SS K E Γ n b c r t g) : SS K E Γ n' b c r t g := fun F0 H0 ρ σ F H fps N rel q => by
  refine h F0 H0 ρ σ F H fps N rel (RP.imp q (fun fl hf => ?_) fun _ z => z)
  cases fl with
  | nx ρ' =>
    intro σ' F' H' fps' s r'
    obtain ⟨F2, fps2, s2, r2⟩ := r'.weak w
    exact hf σ' F2 H' fps2 (s.trans s2) r2
  | rt d => exact hf
  | bk ρ' => exact hf
  | ct ρ' => exact hf
theorem DS.pre (h : DS K E X Γ' st t n b c r g) (w : Wk Γ Γ') : DS K E X Γ st t n b c r g := ⟨h.ps, ss_pre w h.ss⟩
theorem DS.post (h : DS K E X Γ st t n b c r g) (w : Wk n n') : DS K E X Γ st t n' b c r g := ⟨h.ps, ss_post w h.ss⟩
theorem DSs.pre (h : DSs K E X Γ' sts t n b c r g) (w : Wk Γ Γ') : DSs K E X Γ sts t n b c r g := ⟨h.ps, ss_pre w h.ss⟩
theorem DSs.post (h : DSs K E X Γ sts t n b c r g) (w : Wk n n') : DSs K E X Γ sts t n' b c r g := ⟨h.ps, ss_post w h.ss⟩
end
section
variable {K : PySem.W.Frag} {E : XK} {X : Cx} {Γ Γ' n n' b c : List M} {r m : M} {st : Stmt} {sts sts' : List Stmt} {e ce : Expr} {t : TE} {tc : TT} {ts us : TS} {g : List D → R D} {hc : List D → R Bool} {gs gs' : List D → R Fl} {pos : Pos} {k : Nat}
/-- a store to a slot -/
theorem Rel.store {F0 H0 F H F' H' : Hp} {ρ : List D} {σ : St} {fps : Nat → List Addr} {i : Nat} {v : V} {d : D} {fp : List Addr} (rel : Rel K F0 H0 Γ ρ σ F H fps) (x : Ext F H F' H') (hi : i < Γ.length) (hm : m.st = true)
    (rv : Rv K H0 F' H' m v d fp) (f : Fresh H F' fp) : Rel K F0 H0 (Γ.set i m) (ρ.set i d) (σ.set i (some v)) F' H' (fun j => if j = i then fp else fps j) :=
  (rel.ext x).putF (by rw [← rel.lg]; exact hi) hm rv f rel.h0 fun j a ha => rel.there ha
theorem ss_set {i : Nat} (h : SE K E Γ t m g) (hi : i < Γ.length) (hm : m.st = true) : SS K E Γ (Γ.set i m) b c r (tAsg t (gName i)) (gSet i g) := fun F0 H0 ρ σ F H fps N rel q => by
  refine h F0 H0 ρ σ F H fps _ rel ((RP.bind q).imp (fun d hd v F' H' fp x rv f => ?_) fun _ z => z.on rel.x0)
  exact hd _ F' H' _ x.f (rel.store x hi hm rv f)
/-- x = e -/
theorem ds_set (i : Nat) {x : Str} {pos' : Pos} (U : Uni K E k X) (h : DE K E X Γ e t m g) (hi : X.N[i]? = some x := by rfl) (hx : Loc X.env.scope x := by first | exact Or.inl rfl | exact Or.inr rfl) (hm : m.st = true := by rfl) (hl : i < Γ.length := by first | decide | simp)
    (hs : swapsWith e (some (.Name x pos')) pos.line X.env = pure false := by rfl) (hf : X.fn x = true ∨ X.env.scope.names.lookup x = some .local := by first | exact .inl rfl | exact .inr rfl) :
    DS K E X Γ (.Assign [.Name x pos'] e pos) (tAsg t (gName i)) (Γ.set i m) b c r (gSet i g) := ⟨ps_set U.nd hi hx h.pe hs hf, ss_set h.se hl hm⟩
theorem ds_expr (h : DE K E X Γ e t m g) (hs : swapsWith e none pos.line X.env = pure false := by rfl) : DS K E X Γ (.Expr e pos) (tDrop t) Γ b c r (gDrop g) :=
  ⟨ps_expr h.pe hs, fun F0 H0 ρ σ F H fps N rel q => h.se F0 H0 ρ σ F H fps _ rel ((RP.bind q).imp (fun d hd v F' H' fp x rv f => hd σ F' H' fps x.f (rel.ext x)) fun _ z => z.on rel.x0)⟩
omit [Tbs] in
theorem Rv.base {H0 H1 F H : Hp} : ∀ {m : M} {v : V} {d : D} {fp : List Addr}, m.fz = true → Rv K H0 F H m v d fp → Rv K H1 F H m v d fp
  | .un, _, _, _, hm, _ => nomatch hm
  | .fr, _, _, _, _, h => h
  | .bo, _, _, _, hm, _ => nomatch hm
  | .pk, _, _, _, hm, _ => nomatch hm
  | .ow m, v, d, fp, hm, h => by
    cases d with
    | lst ds =>
      obtain ⟨a, vs, fps, e1, e2, e3, e4⟩ := Rv.ow_lst h
      exact ⟨a, vs, fps, e1, e2, e3.imp fun v d f _ q => Rv.base (m := m) hm q, e4⟩
    | non => exact h
    | bl _ => exact h
    | int _ => exact h
    | str _ => exact h
    | tup _ => exact h
    | ob C ns ds =>
      obtain ⟨a, dx, fs, fps, e1, e2, e3, e4, e5, e6⟩ := Rv.ow_ob h
      exact ⟨a, dx, fs, fps, e1, e2, e3, e4, e5.imp fun v d f _ q => Rv.base (m := m) hm q, e6⟩
    | cl _ => exact h
    | ex _ _ => exact h
  | .pin _ _, _, _, _, hm, _ => nomatch hm
  | .io _ _ _, _, _, _, hm, _ => nomatch hm
theorem ss_ret (h : SE K E Γ t r g) : SS K E Γ n b c r (tRet t) (gRet g) := fun F0 H0 ρ σ F H fps N rel q => by
  refine h F0 H0 ρ σ F H fps _ rel ((RP.bind q).imp (fun d hd v F' H' fp x rv f => ?_) fun _ z => z.on rel.x0)
  exact hd v F' H' fp (rel.x0.trans x) (.of rv) (f.back rel.h0)
/-- return e -/
theorem ds_ret (h : DE K E X Γ e t r g) : DS K E X Γ (.Return (some e) pos) (tRet t) n b c r (gRet g) := ⟨ps_ret h.pe, ss_ret h.se⟩
/-- return x, x's own list goes out -/
theorem ds_retM (i : Nat) {x : Str} {p : Pos} (h : Γ[i]? = some r := by rfl) (hm : r.fz = true := by rfl) (hN : X.N[i]? = some x := by rfl) (hv : Vis X.env.scope x := by first | exact Or.inl rfl | exact Or.inr (Or.inl rfl) | exact Or.inr (Or.inr rfl))
    (hd : (x == ("__debug__" : Str)) = false := by decide) (hcd : (x == ("__classdict__" : Str)) = false := by decide) : DS K E X Γ (.Return (some (.Name x p)) pos) (tRet (tVar i)) n b c r (gRet (gv i)) :=
  ⟨ps_ret (pe_var hN hv hd hcd), fun F0 H0 ρ σ F H fps N rel q => by
    obtain ⟨v, hv, st, rv⟩ := rel.get h (fun e => by rw [e] at hm; cases hm)
    exact ⟨v, hv, q v F H (fps i) rel.x0 (.of rv) ⟨rel.nd i, fun a ha => ⟨(rel.ow i a ha).2, (rel.ow i a ha).1⟩⟩⟩⟩
theorem ds_retN (hm : r.fz = true := by rfl) : DS K E X Γ (.Return none pos) tRetN n b c r (gRet (gc .non)) := ⟨ps_retN, fun F0 H0 ρ σ F H fps N rel q => by
  refine q .non F H [] rel.x0 ?_ Fresh.nil
  cases r with
  | fr => exact ⟨.non, rfl⟩
  | ow m => exact ⟨.non, rfl⟩
  | _ => cases hm⟩
theorem ss_ite (h : ST K E Γ tc hc) (h1 : SS K E Γ n b c r ts gs) (h2 : SS K E Γ n b c r us gs') : SS K E Γ n b c r (tIfS tc ts us) (gIte hc gs gs') := fun F0 H0 ρ σ F H fps N rel q =>
  h F0 H0 ρ σ F H fps _ rel ((RP.bind q).imp (fun d hd F' H' x => ite_tt (fun e => by
    subst e
    exact h1 F0 H0 ρ σ F' H' fps N (rel.ext x) (RP.imp (show RP (gs ρ) _ _ from hd) (fun fl hf => hf.on x.f) fun _ z => z)) fun e => by
    subst e
    exact h2 F0 H0 ρ σ F' H' fps N (rel.ext x) (RP.imp (show RP (gs' ρ) _ _ from hd) (fun fl hf => hf.on x.f) fun _ z => z)) fun _ z => z.on rel.x0)
theorem ds_if (h : DT K E X Γ ce tc hc) (h1 : DSs K E X Γ sts ts n b c r gs) (h2 : DSs K E X Γ sts' us n b c r gs') : DS K E X Γ (.If ce sts sts' pos) (tIfS tc ts us) n b c r (gIte hc gs gs') := ⟨ps_if h.pt h1.ps h2.ps, ss_ite h.st h1.ss h2.ss⟩
theorem ds_break : DS K E X Γ (.Break pos) tBreak n Γ c r (fun ρ => .ok (.bk ρ)) := ⟨ps_break, fun F0 H0 ρ σ F H fps N rel q => q σ F H fps (Same.refl _) rel⟩
theorem ds_continue : DS K E X Γ (.Continue pos) tCont n b Γ r (fun ρ => .ok (.ct ρ)) := ⟨ps_continue, fun F0 H0 ρ σ F H fps N rel q => q σ F H fps (Same.refl _) rel⟩
end

/-! ### calls of defs -/
section
variable {K : PySem.W.Frag} {E : XK} {X : Cx} {Γ : List M} {e : Expr} {es : List Expr} {t : TE} {tr : TA} {m : M} {ms : List M} {g : List D → R D} {gr : List D → R (List D)} {pos : Pos} {k : Nat}
theorem da_nil : DA K E X Γ [] tNil [] gsN := ⟨pa_nil, fun F0 H0 ρ σ F H fps Q r q => q [] F H (Ext.refl r.fh) .nil⟩
theorem sa_cons (hm : ∀ H0 F H v d fp, Rv K H0 F H m v d fp → fp = []) (h : SE K E Γ t m g) (h2 : SA K E Γ tr ms gr) : SA K E Γ (tCons t tr) (m :: ms) (gsC g gr) := fun F0 H0 ρ σ F H fps Q r q => by
  refine h F0 H0 ρ σ F H fps _ r ((RP.bind q).imp (fun d hd v F1 H1 fp e1 rv f1 => ?_) fun _ z => z)
  have e0 := hm _ _ _ _ _ _ rv
  subst e0
  refine h2 F0 H0 ρ σ F1 H1 fps _ (r.ext e1) ((RP.bind hd).imp (fun ds hds vs F2 H2 e2 rv2 => ?_) fun _ z => z.on e1)
  exact hds (v :: vs) F2 H2 (e1.trans e2) (.cons (rv.grow e2.f e2.h) rv2)
/-- an argument that is to be frozen; one that is looked at -/
theorem da_f (h : DE K E X Γ e t .fr g) (h2 : DA K E X Γ es tr ms gr) (hs : starEach (e :: es) X.env = (false, eval e X.env) :: starEach es X.env := by rfl) : DA K E X Γ (e :: es) (tCons t tr) (.fr :: ms) (gsC g gr) := ⟨pa_cons h.pe h2.pa hs, sa_cons (fun _ _ _ _ _ _ q => q.2) h.se h2.sa⟩
theorem da_p (h : DE K E X Γ e t m g) (h2 : DA K E X Γ es tr ms gr) (hs : starEach (e :: es) X.env = (false, eval e X.env) :: starEach es X.env := by rfl) : DA K E X Γ (e :: es) (tCons t tr) (.pk :: ms) (gsC g gr) := ⟨pa_cons h.pe h2.pa hs, sa_cons (fun _ _ _ _ _ _ q => q.2) h.se.pk h2.sa⟩
end
/-- a def's promise over data: ms: how its arguments are handed (fr or pk), mr: how its value comes -/
def spD (K : PySem.W.Frag) (ms : List M) (mr : M) (f : List D → R D) : Sp := fun vs H Q E => ∃ F ds, Same F H ∧ TbsOk H ∧ Rvs K H F H ms vs ds ∧ RP (f ds) (fun d => VP K H F H mr d Q) (XP K E F H)
/-- the def x of the module keeps that promise -/
def FnD (P : Program) (w : World) (K : PySem.W.Frag) (mg : Str → Option Value) (base : Heap) (k : Nat) (x : Str) (ms : List M) (mr : M) (f : List D → R D) : Prop :=
  ∃ a fd ps, FnOk P w K mg base (L2.CX P w) k a fd ps (spD K ms mr f) ∧ mg x = some (.ref a) ∧ PySem.W.keepIn K (.ref a) = true ∧ Binds K fd ps []
omit [Tbs] in
theorem Rvs.base {K : PySem.W.Frag} {H0 H1 F H : Hp} {ms : List M} {vs : List V} {ds : List D} (hm : ∀ m ∈ ms, m = .fr ∨ m = .pk) (h : Rvs K H0 F H ms vs ds) : Rvs K H1 F H ms vs ds := by
  induction h with
  | nil => exact .nil
  | cons h _ ih =>
    refine .cons ?_ (ih fun m hm' => hm m (List.mem_cons_of_mem _ hm'))
    rcases hm _ List.mem_cons_self with e | e
    · subst e; exact h
    · subst e; exact h
theorem VP.base {K : PySem.W.Frag} {H0 H1 F H : Hp} {m : M} {d : D} {Q : VK} (hm : m.fz = true) (h : VP K H0 F H m d Q) : VP K H1 F H m d Q := fun v F' H' fp x rv f => h v F' H' fp x (rv.base hm) f
section
variable {K : PySem.W.Frag} {E : XK} {X : Cx} {Γ : List M} {e : Expr} {es : List Expr} {tr : TA} {mr : M} {ms : List M} {f : List D → R D} {gr : List D → R (List D)} {pos p : Pos} {j k : Nat} {x : Str}
theorem se_call (h : SA K E Γ tr ms gr) (hr : mr.fz = true) (hm : ∀ m ∈ ms, m = .fr ∨ m = .pk) : SE K E Γ (tCall (spD K ms mr f) [] E tr) mr (gAll f gr) := fun F0 H0 ρ σ F H fps Q r q => by
  refine h F0 H0 ρ σ F H fps _ r ((RP.bind q).imp (fun ds hd vs F' H' x rv => ?_) fun _ z => z)
  rw [List.append_nil]
  exact ⟨F', ds, x.fh, x.tb r.tb, rv.base hm, hd.imp (fun d hd => VP.base hr (VP.on hd x)) fun _ z => z.on x⟩
/-- f(e, ..) -/
theorem de_call (U : Uni K E k X) (F : FnD X.prog X.w K X.mg X.base j x ms mr f) (ha : DA K E X Γ (e :: es) tr ms gr) (hj : j ≤ k := by decide) (hr : mr.fz = true := by rfl) (hm : ∀ m ∈ ms, m = .fr ∨ m = .pk := by simp) (hg : Gl X x := by rfl)
    (hdb : (x == ("__debug__" : Str)) = false := by decide) (he : starEach (e :: es) X.env = (false, eval e X.env) :: starEach es X.env := by rfl) (hpl : (backTo pos (starEach es X.env)).any (·.1) = false := by rfl) :
    DE K E X Γ (.Call (.Name x p) (e :: es) [] pos) (tCall (spD K ms mr f) [] E tr) mr (gAll f gr) := by
  have e0 := U.K
  subst e0
  obtain ⟨a, fd, ps, F1, F2, F3, F4⟩ := F
  exact ⟨pe_call (F1.mono hj) U.room hg F2 F3 F4 .nil U.pass ha.pa hdb he hpl, se_call ha.sa hr hm⟩
theorem de_call0 (U : Uni K E k X) (F : FnD X.prog X.w K X.mg X.base j x [] mr f) (hj : j ≤ k := by decide) (hr : mr.fz = true := by rfl) (hg : Gl X x := by rfl)
    (hdb : (x == ("__debug__" : Str)) = false := by decide) : DE K E X Γ (.Call (.Name x p) [] [] pos) (tCall (spD K [] mr f) [] E tNil) mr (gAll f gsN) := by
  have e0 := U.K
  subst e0
  obtain ⟨a, fd, ps, F1, F2, F3, F4⟩ := F
  exact ⟨pe_call0 (F1.mono hj) U.room hg F2 F3 F4 .nil U.pass hdb, se_call (da_nil (X := X)).sa hr (by simp)⟩
end
/-! ### a def by its body -/
def toS : M → M
  | .fr => .fr
  | .pk => .bo
  | _ => .un
def startG (n : Nat) (ms : List M) : List M := ms.map toS ++ List.replicate (n - ms.length) .un
def startR (n : Nat) (ds : List D) : List D := ds ++ List.replicate (n - ds.length) .non
/-- what a body gives over the arguments -/
def finF : Fl → R D
  | .rt d => .ok d
  | .nx _ => .ok .non
  | _ => .bad
def runF (n : Nat) (g : List D → R Fl) : List D → R D := fun ds => g (startR n ds) >>= finF
omit [Tbs] in
theorem Rvs.lens {K : PySem.W.Frag} {H0 F H : Hp} {ms : List M} {vs : List V} {ds : List D} (h : Rvs K H0 F H ms vs ds) : vs.length = ms.length ∧ ds.length = ms.length := by
  induction h with
  | nil => exact ⟨rfl, rfl⟩
  | cons _ _ ih => exact ⟨by rw [List.length_cons, List.length_cons, ih.1], by rw [List.length_cons, List.length_cons, ih.2]⟩
omit [Tbs] in
theorem Rvs.so {K : PySem.W.Frag} {F H : Hp} {ms : List M} {vs : List V} {ds : List D} (h : Rvs K H F H ms vs ds) (k : Nat) : ∀ i,
    So K H F H ((ms.map toS ++ List.replicate k M.un).getD i M.un) ((vs.map some ++ List.replicate k Option.none).getD i Option.none) ((ds ++ List.replicate k D.non).getD i D.non) [] := by
  induction h with
  | nil =>
    intro i
    refine .inl ⟨?_, rfl⟩
    rw [List.map_nil, List.nil_append, List.getD_eq_getElem?_getD, List.getElem?_replicate]
    split <;> rfl
  | @cons m ms v d vs ds h _ ih =>
    intro i
    cases i with
    | zero =>
      cases m with
      | fr => exact .inr ⟨v, rfl, rfl, h⟩
      | pk => exact .inr ⟨v, rfl, rfl, h⟩
      | un => exact .inl ⟨rfl, rfl⟩
      | bo => exact .inl ⟨rfl, rfl⟩
      | ow _ => exact .inl ⟨rfl, rfl⟩
      | pin _ _ => exact .inl ⟨rfl, rfl⟩
      | io _ _ _ => exact .inl ⟨rfl, rfl⟩
    | succ i => exact ih i
theorem Rel.start {K : PySem.W.Frag} {F H : Hp} {ms : List M} {vs : List V} {ds : List D} {N : List Str} (e : Same F H) (tb : TbsOk H) (h : Rvs K H F H ms vs ds) (hn : ms.length ≤ N.length) : Rel K F H (startG N.length ms) (startR N.length ds) (L2.start N vs) F H (fun _ => []) := by
  obtain ⟨l1, l2⟩ := h.lens
  unfold startG startR L2.start
  refine ⟨e, Same.refl _, Same.refl _, tb, fun a o q => .inl q, ?_, ?_, fun i => ?_, fun _ => List.nodup_nil, fun i j a ha => (nomatch ha), fun i a ha => (nomatch ha)⟩
  -- fun _ => List.nodup_nil, fun i j a ha => (nomatch ha), fun i a ha => (nomatch ha)⟩
  · simp only [List.length_append, List.length_map, List.length_replicate]; omega
  · simp only [List.length_append, List.length_map, List.length_replicate]; omega
  · rw [l1, l2]
    exact h.so (N.length - ms.length) i
theorem fn_body {P : Program} {w : World} {K : PySem.W.Frag} {mg : Str → Option Value} {base : Heap} {x qual : Str} {st : Stmt} {a : Addr} {fd : FuncData} {N ps : List Str} {k : Nat} {ms : List M} {mr : M} {n b c : List M} {f : List D → R D} (g : List D → R Fl)
    (hf : f = runF N.length g) (B : Bn mg) (F : Fun K x qual st a fd) (S : FnScope N ps (defScope st)) (hl : ms.length = ps.length) (hr : mr.fz = true)
    (body : ∀ (cdv : Value) (A : Around) (outer : List Env) (s : Shared) (H : Hp) (E : XK), Uni K E k (cxOf (L2.CX P w) P w K mg base N qual (defScope st) a cdv A outer s H E) →
      ∃ t, DSs K E (cxOf (L2.CX P w) P w K mg base N qual (defScope st) a cdv A outer s H E) (startG N.length ms) (defBody st) t n b c mr g) :
    FnOk P w K mg base (L2.CX P w) (k + 1) a fd ps (spD K ms mr f) := by
  subst hf
  refine F.okX S (fun vs H Q E ⟨F, ds, _, _, h, _⟩ => by rw [h.lens.1, hl]) fun cdv A outer s H vs Q E hr1 ⟨F, ds, eF, tb, h, q⟩ => ?_
  have tk := takes_of (X := cxOf (L2.CX P w) P w K mg base N qual (defScope st) a cdv A outer s H E) (E := E) rfl rfl rfl rfl
  have U : Uni K E k (cxOf (L2.CX P w) P w K mg base N qual (defScope st) a cdv A outer s H E) := ⟨rfl, S.nd, rfl, hr1, hr1.units, passes_of rfl, passes_call tk fun _ _ _ _ h => h, tk, B⟩
  obtain ⟨t, hb⟩ := body cdv A outer s H E U
  refine ⟨t, hb.ps, hb.ss F H _ _ F H _ _ (Rel.start eF tb h ?_) ((RP.bind q).imp (fun fl hf => ?_) fun _ z => z)⟩
  · rw [hl]
    have e := congrArg List.length S.pre
    rw [List.length_take] at e
    omega
  · cases fl with
    | nx ρ =>
      intro σ' F' H' fps' s rel
      refine (show VP K H F H mr .non Q from hf) .non F' H' [] rel.x0 ?_ Fresh.nil
      cases mr with
      | fr => exact ⟨.non, rfl⟩
      | ow m => exact ⟨.non, rfl⟩
      | _ => cases hr
    | rt d => exact fun v F' H' fp x rv f => hf v F' H' fp x (rv.to hr) f
    | bk _ => exact (show False from hf).elim
    | ct _ => exact (show False from hf).elim
end DL
/-! DLg: what is walked; for, while, comprehensions. -/
namespace DL
open PySem L2
variable [Tbs]

def oR {α : Type} : Option α → R α
  | some a => .ok a
  | none => .bad
omit [Tbs] in
@[simp] theorem oR_some {α : Type} (a : α) : oR (some a) = R.ok a := rfl
omit [Tbs] in
@[simp] theorem oR_none {α : Type} : oR (none : Option α) = R.bad := rfl
omit [Tbs] in
theorem RP.oR {α : Type} {o : Option α} {P P' : α → Prop} {X X' : Ex → Prop} (h : RP (DL.oR o) P X) (hP : ∀ a, P a → P' a) : RP (DL.oR o) P' X' := by
  cases o with
  | some a => exact hP a h
  | none => exact h
/-- while F, H0 stand, J yields the data ds, item by item, each standing as m says -/
structure Yld (K : PySem.W.Frag) (J : It) (F H0 : Hp) (m : M) (ds : List D) : Prop where
  walk : Walk J ds.length (fun H' => Same F H' ∧ Same H0 H') fun i H' x H'' => ∀ F', Same F F' → Same F' H' → ∃ F'' d, Ext F' H' F'' H'' ∧ ds[i]? = some d ∧ Rv K H0 F'' H'' m x d []
theorem Yld.mk' {K : PySem.W.Frag} {J : It} {F H0 : Hp} {m : M} {ds : List D} {G : Hp → Prop} {Y : Nat → Hp → V → Hp → Prop} (w : Walk J ds.length G Y) (hg : ∀ H', Same F H' → Same H0 H' → G H')
    (hy : ∀ i H' x H'', i < ds.length → Same F H' → Same H0 H' → Y i H' x H'' → ∀ F', Same F F' → Same F' H' → ∃ F'' d, Ext F' H' F'' H'' ∧ ds[i]? = some d ∧ Rv K H0 F'' H'' m x d []) : Yld K J F H0 m ds :=
  ⟨w.mono (fun H' q => hg H' q.1 q.2) fun i H' x H'' hi q y F' s1 s2 => hy i H' x H'' hi q.1 q.2 y F' s1 s2⟩
def SI (K : PySem.W.Frag) (E : XK) (Γ : List M) (wi : TI) (m : M) (g : List D → R (List D)) : Prop :=
  ∀ F0 H0 ρ σ F H fps Rr, Rel K F0 H0 Γ ρ σ F H fps → RP (g ρ) (fun ds => ∀ J F' H', Ext F H F' H' → Yld K J F' H0 m ds → ds.length ≤ sizeLine → Rr J H') (XP K E F H) → wi σ H Rr
structure DI (K : PySem.W.Frag) (E : XK) (X : Cx) (Γ : List M) (tg e : Expr) (wi : TI) (m : M) (g : List D → R (List D)) : Prop where
  pi : PI X tg e wi
  si : SI K E Γ wi m g
/-- a target: the slots it stores to -/
def SG (K : PySem.W.Frag) (Γ Γ' : List M) (m : M) (is : List Nat) (tg : TG) (g : D → List D → Option (List D)) : Prop :=
  ∀ F0 H0 ρ σ F H fps v d Q, Rel K F0 H0 Γ ρ σ F H fps → Rv K H0 F H m v d [] →
    RP (oR (g d ρ)) (fun ρ' => ∀ σ' fps', Rel K F0 H0 Γ' ρ' σ' F H fps' → (∀ j, j ∉ is → σ'[j]? = σ[j]?) → σ'.length = σ.length → Q σ' H) (fun _ => False) → tg v σ H Q
structure DG (K : PySem.W.Frag) (X : Cx) (Γ Γ' : List M) (m : M) (is : List Nat) (e : Expr) (tg : TG) (g : D → List D → Option (List D)) : Prop where
  pg : PG X e tg
  sg : SG K Γ Γ' m is tg g
def SGs (K : PySem.W.Frag) (Γ Γ' : List M) (is : List Nat) (tg : TGs) (g : List D → List D → Option (List D)) : Prop :=
  ∀ F0 H0 ρ σ F H fps vs ds Q, Rel K F0 H0 Γ ρ σ F H fps → FzL K F vs ds →
    RP (oR (g ds ρ)) (fun ρ' => ∀ σ' fps', Rel K F0 H0 Γ' ρ' σ' F H fps' → (∀ j, j ∉ is → σ'[j]? = σ[j]?) → σ'.length = σ.length → Q σ' H) (fun _ => False) → tg vs σ H Q
structure DGs (K : PySem.W.Frag) (X : Cx) (Γ Γ' : List M) (is : List Nat) (es : List Expr) (tg : TGs) (g : List D → List D → Option (List D)) : Prop where
  pg : PGs X es tg
  sg : SGs K Γ Γ' is tg g

/-! ### targets -/
def gtN (i : Nat) : D → List D → Option (List D) := fun d ρ => some (ρ.set i d)
def gtsN : List D → List D → Option (List D) := fun ds ρ => match ds with
  | [] => some ρ
  | _ => none
def gtsC (a : D → List D → Option (List D)) (r : List D → List D → Option (List D)) : List D → List D → Option (List D) := fun ds ρ => match ds with
  | d :: ds => (a d ρ).bind (r ds)
  | [] => none
def gtT (r : List D → List D → Option (List D)) : D → List D → Option (List D) := fun d ρ => match d with
  | .tup ds => r ds ρ
  | _ => none
section
variable {K : PySem.W.Frag} {E : XK} {X : Cx} {Γ Γ' Γ2 : List M} {m : M} {is is' : List Nat} {e : Expr} {es : List Expr} {tg : TG} {tgs : TGs} {ga : D → List D → Option (List D)} {gr : List D → List D → Option (List D)} {pos : Pos} {k : Nat}
theorem sg_name (i : Nat) (hm : m.st = true) (hi : i < Γ.length) : SG K Γ (Γ.set i m) m [i] (gName i) (gtN i) := fun F0 H0 ρ σ F H fps v d Q rel rv q =>
  q _ _ (rel.store (Ext.refl rel.fh) hi hm rv Fresh.nil) (fun j hj => by
    rw [List.getElem?_set_ne (fun e => hj (by simp [e]))]) (by rw [List.length_set])
theorem dg_name (i : Nat) {x : Str} (U : Uni K E k X) (hi : X.N[i]? = some x := by rfl) (hx : Loc X.env.scope x := by first | exact Or.inl rfl | exact Or.inr rfl) (hm : m.st = true := by rfl) (hl : i < Γ.length := by first | decide | simp) (hf : X.fn x = true ∨ X.env.scope.names.lookup x = some .local := by first | exact .inl rfl | exact .inr rfl) :
    DG K X Γ (Γ.set i m) m [i] (.Name x pos) (gName i) (gtN i) := ⟨pg_name U.nd hi hx hf, sg_name i hm hl⟩
theorem dgs_nil : DGs K X Γ Γ [] [] gNil gtsN := ⟨pgs_nil, fun F0 H0 ρ σ F H fps vs ds Q rel h q => by
  cases h with
  | nil => exact ⟨rfl, q σ fps rel (fun _ _ => rfl) rfl⟩
  | cons _ _ => exact (show False from q).elim⟩
theorem dgs_cons (h : DG K X Γ Γ2 .fr is e tg ga) (h2 : DGs K X Γ2 Γ' is' es tgs gr) (hs : (assignEach (e :: es) X.env).map (·.2) = assign e X.env :: (assignEach es X.env).map (·.2) := by rfl) : DGs K X Γ Γ' (is ++ is') (e :: es) (gCons tg tgs) (gtsC ga gr) :=
  ⟨pgs_cons h.pg h2.pg hs, fun F0 H0 ρ σ F H fps vs ds Q rel hv q => by
    cases hv with
    | nil => exact (show False from q).elim
    | @cons v d vs ds hv hvs =>
      refine ⟨v, vs, rfl, h.sg F0 H0 ρ σ F H fps v d _ rel ⟨hv, rfl⟩ ?_⟩
      have q : RP (oR ((ga d ρ).bind (gr ds))) _ _ := q
      cases hga : ga d ρ with
      | none =>
        rw [hga] at q
        exact q.elim
      | some ρ1 =>
      rw [hga] at q
      intro σ1 fps1 rel1 o1 l1
      refine h2.sg F0 H0 ρ1 σ1 F H fps1 vs ds _ rel1 hvs (RP.oR (show RP (oR (gr ds ρ1)) _ _ from q) (fun ρ2 q2 σ2 fps2 rel2 o2 l2 => ?_))
      exact q2 σ2 fps2 rel2 (fun j hj => by rw [o2 j fun z => hj (List.mem_append_right _ z), o1 j fun z => hj (List.mem_append_left _ z)]) (l2.trans l1)⟩
theorem dg_tup {n : Nat} {kk : Nat} (U : Uni K E k X) (h : DGs K X Γ Γ' is es tgs gr) (hm : m = .fr ∨ m = .bo := by first | exact .inl rfl | exact .inr rfl) (hlen : ∀ ds ρ, ds.length ≠ n → gr ds ρ = none)
    (hn : (assignEach es X.env).length = n := by rfl) (hst : (assignEach es X.env).findIdx? (·.1) = none := by rfl) : DG K X Γ Γ' m is (.Tuple es kk pos) (gTup K n tgs) (gtT gr) := by
  have e0 := U.K
  subst e0
  refine ⟨pg_tup U.calm h.pg hn hst, fun F0 H0 ρ σ F H fps v d Q rel rv q => ?_⟩
  have hb : Bo X.K H0 F v d := by
    rcases hm with e | e
    · subst e; exact .fz rv.1
    · subst e; exact rv.1
  cases d with
  | tup ds =>
    obtain ⟨a, vs, rfl, h1, h2⟩ := hb.tupOf
    refine ⟨a, vs, rfl, Same.sqt rel.fh h1, ?_, h.sg F0 H0 ρ σ F H fps vs ds Q rel h2 q⟩
    rw [h2.length]
    by_cases z : ds.length = n
    · exact z
    · have q' : RP (oR (gr ds ρ)) _ _ := q
      rw [hlen ds ρ z] at q'
      exact q'.elim
  | _ => exact (show False from q).elim
end
omit [Tbs] in
theorem gts_len0 : ∀ (ds ρ : List D), ds.length ≠ 0 → gtsN ds ρ = none := by
  intro ds ρ h
  cases ds with
  | nil => exact absurd rfl h
  | cons d ds => rfl
omit [Tbs] in
theorem gts_lenC {n : Nat} {a : D → List D → Option (List D)} {r : List D → List D → Option (List D)} (h : ∀ (ds ρ : List D), ds.length ≠ n → r ds ρ = none) : ∀ (ds ρ : List D), ds.length ≠ n + 1 → gtsC a r ds ρ = none := by
  intro ds ρ hl
  cases ds with
  | nil => rfl
  | cons d ds =>
    show (a d ρ).bind (r ds) = none
    cases a d ρ with
    | none => rfl
    | some ρ' => exact h ds ρ' fun e => hl (by rw [List.length_cons, e])

/-! ### for -/
def forL (step : D → List D → R Fl) : List D → List D → R Fl
  | [], ρ => .ok (.nx ρ)
  | d :: ds, ρ => step d ρ >>= fun
    | .nx ρ' => forL step ds ρ'
    | .ct ρ' => forL step ds ρ'
    | .bk ρ' => .ok (.nx ρ')
    | .rt d => .ok (.rt d)
def gFor (src : List D → R (List D)) (gt : D → List D → Option (List D)) (body : List D → R Fl) : List D → R Fl := fun ρ => src ρ >>= fun ds => forL (fun d ρ => oR (gt d ρ) >>= body) ds ρ
section
variable {K : PySem.W.Frag} {E : XK} {X : Cx} {Γ Γ' n b c : List M} {m r : M} {is : List Nat} {iter tge : Expr} {sts : List Stmt} {wi : TI} {tg : TG} {tb : TS} {src : List D → R (List D)} {gt : D → List D → Option (List D)} {body : List D → R Fl} {pos : Pos} {k : Nat}
theorem ss_for (hi : SI K E Γ wi m src) (hg : SG K Γ Γ' m is tg gt) (hb : SS K E Γ' Γ Γ Γ r tb body) : SS K E Γ Γ b c r (tFor wi tg tb) (gFor src gt body) := fun F0 H0 ρ σ F H fps N rel q => by
  refine hi F0 H0 ρ σ F H fps _ rel ((RP.bind q).imp (fun ds hds J F1 H1 x1 Y hz => ?_) fun _ z => z.on rel.x0)
  refine for_it Y.walk (fun i σ' H' => ∃ ρ' F' fps', Same F1 F' ∧ Rel K F0 H0 Γ ρ' σ' F' H' fps' ∧ RP (forL (fun d ρ => oR (gt d ρ) >>= body) (ds.drop i) ρ') (FP K F0 H0 F Γ b c r N) (XP K E F0 H0))
    ⟨ρ, F1, fps, Same.refl _, rel.ext x1, by rw [List.drop_zero]; exact hds⟩ (fun i σ' H' _ ⟨_, F', _, s, rel', _⟩ => ⟨s.trans rel'.fh, rel'.h0⟩) ?_ ?_
  · rintro i x σ' H' H'' hi ⟨ρ', F', fps', s, rel', hq⟩ y
    obtain ⟨F'', d, x2, hd, rv⟩ := y F' s rel'.fh
    have hlt : i < ds.length := hi
    have hdrop : ds.drop i = d :: ds.drop (i + 1) := by
      rw [List.drop_eq_getElem_cons hlt]
      rw [List.getElem?_eq_getElem hlt] at hd
      rw [Option.some.inj hd]
    rw [hdrop] at hq
    refine hg F0 H0 ρ' σ' F'' H'' fps' x d _ (rel'.ext x2) rv ?_
    have hq2 := RP.bind hq
    refine RP.oR (RP.bind (show RP (oR (gt d ρ') >>= body) _ _ from hq2)) (fun ρ2 q2 σ2 fps2 rel2 _ _ => ?_)
    · refine hb F0 H0 ρ2 σ2 F'' H'' fps2 _ rel2 (RP.imp q2 (fun fl hf => ?_) fun _ z => z)
      cases fl with
      | nx ρ3 => exact fun σ3 F3 H3 fps3 s3 rel3 => ⟨ρ3, F3, fps3, s.trans (x2.f.trans s3), rel3, hf⟩
      | ct ρ3 => exact fun σ3 F3 H3 fps3 s3 rel3 => ⟨ρ3, F3, fps3, s.trans (x2.f.trans s3), rel3, hf⟩
      | bk ρ3 => exact fun σ3 F3 H3 fps3 s3 rel3 => (show FP K F0 H0 F Γ b c r N (.nx ρ3) from hf) σ3 F3 H3 fps3 (x1.f.trans (s.trans (x2.f.trans s3))) rel3
      | rt d3 => exact (show FP K F0 H0 F Γ b c r N (.rt d3) from hf)
  · rintro σ' H' ⟨ρ', F', fps', s, rel', hq⟩
    rw [List.drop_length] at hq
    exact (show FP K F0 H0 F Γ b c r N (.nx ρ') from hq) σ' F' H' fps' (x1.f.trans s) rel'
end

section
variable {K : PySem.W.Frag} {E : XK} {X : Cx} {Γ Γ' n b c : List M} {m r : M} {is : List Nat} {iter tge ce : Expr} {sts : List Stmt} {wi : TI} {tg : TG} {tb : TS} {tc : TT} {src : List D → R (List D)} {gt : D → List D → Option (List D)} {body : List D → R Fl} {hc : List D → R Bool} {pos : Pos} {k : Nat}
/-- for target in iter -/
theorem ds_for (U : Uni K E k X) (hi : DI K E X Γ tge iter wi m src) (hg : DG K X Γ Γ' m is tge tg gt) (hb : DSs K E X Γ' sts tb Γ Γ Γ r body) (hs : ∀ x, foldedSetIterable iter X.env x = pure x := by intro _; rfl) :
    DS K E X Γ (.For tge iter sts [] pos) (tFor wi tg tb) Γ b c r (gFor src gt body) := ⟨ps_for U.po U.calm hi.pi hg.pg hb.ps hs, ss_for hi.si hg.sg hb.ss⟩
/-! ### while -/
def whL (c : List D → R Bool) (body : List D → R Fl) : Nat → List D → R Fl
  | 0, _ => .bad
  | n + 1, ρ => c ρ >>= fun k => if k = true then body ρ >>= fun
      | .nx ρ' => whL c body n ρ'
      | .ct ρ' => whL c body n ρ'
      | .bk ρ' => .ok (.nx ρ')
      | .rt d => .ok (.rt d)
    else .ok (.nx ρ)
def gWhile (fuel : List D → Nat) (c : List D → R Bool) (body : List D → R Fl) : List D → R Fl := fun ρ => whL c body (fuel ρ) ρ
theorem ss_while (fuel : List D → Nat) (h : ST K E Γ tc hc) (hb : SS K E Γ Γ Γ Γ r tb body) : SS K E Γ Γ b c r (tWhile tc tb) (gWhile fuel hc body) := fun F0 H0 ρ σ F H fps N rel q => by
  refine ⟨fun m σ' H' => ∃ ρ' F' fps', Same F F' ∧ Rel K F0 H0 Γ ρ' σ' F' H' fps' ∧ RP (whL hc body m ρ') (FP K F0 H0 F Γ b c r N) (XP K E F0 H0), ⟨fuel ρ, ρ, F, fps, Same.refl _, rel, q⟩, ?_⟩
  rintro m σ' H' ⟨ρ', F', fps', s, rel', hq⟩
  cases m with
  | zero => exact hq.elim
  | succ m =>
    refine h F0 H0 ρ' σ' F' H' fps' _ rel' ((RP.bind hq).imp (fun kk hk F2 H2 x2 => ?_) fun _ z => z.on rel'.x0)
    refine ite_tt (fun e => ?_) fun e => ?_
    · subst e
      refine ⟨fun σ3 H3 => ∃ ρ3 F3 fps3, Same F F3 ∧ Rel K F0 H0 Γ ρ3 σ3 F3 H3 fps3 ∧ RP (whL hc body m ρ3) (FP K F0 H0 F Γ b c r N) (XP K E F0 H0), fun σ3 H3 hN => ⟨m, Nat.lt_succ_self m, hN⟩, ?_⟩
      refine hb F0 H0 ρ' σ' F2 H2 fps' _ (rel'.ext x2) ((RP.bind (show RP (body ρ' >>= _) _ _ from hk)).imp (fun fl hf => ?_) fun _ z => z)
      cases fl with
      | nx ρ3 => exact fun σ3 F3 H3 fps3 s3 rel3 => ⟨ρ3, F3, fps3, s.trans (x2.f.trans s3), rel3, hf⟩
      | ct ρ3 => exact fun σ3 F3 H3 fps3 s3 rel3 => ⟨ρ3, F3, fps3, s.trans (x2.f.trans s3), rel3, hf⟩
      | bk ρ3 => exact fun σ3 F3 H3 fps3 s3 rel3 => (show FP K F0 H0 F Γ b c r N (.nx ρ3) from hf) σ3 F3 H3 fps3 (s.trans (x2.f.trans s3)) rel3
      | rt d3 => exact (show FP K F0 H0 F Γ b c r N (.rt d3) from hf)
    · subst e
      exact (show FP K F0 H0 F Γ b c r N (.nx ρ') from hk) σ' F2 H2 fps' (s.trans x2.f) (rel'.ext x2)
theorem ds_while (U : Uni K E k X) (fuel : List D → Nat) (h : DT K E X Γ ce tc hc) (hb : DSs K E X Γ sts tb Γ Γ Γ r body) : DS K E X Γ (.While ce sts [] pos) (tWhile tc tb) Γ b c r (gWhile fuel hc body) :=
  ⟨ps_while U.po h.pt hb.ps, ss_while fuel h.st hb.ss⟩
end

/-! ### what is walked -/
def dIter : D → R (List D)
  | .lst ds => .ok ds
  | .tup ds => .ok ds
  | .str x => if x.cps.size ≤ sizeLine then .ok (x.cps.toList.map fun c => .str ⟨#[c]⟩) else .bad
  | _ => .bad
def iAny (K : PySem.W.Frag) (tl : TE) : TI := fun σ H Rr => tl σ H fun x H1 =>
  (∃ a xs, x = .ref a ∧ SqL K H1 a xs ∧ (xs.length ≤ sizeLine → Rr (Itl K a) H1)) ∨ (∃ a xs, x = .ref a ∧ SqT K H1 a xs ∧ (xs.length ≤ sizeLine → Rr (Itt K a) H1)) ∨ ∃ z, x = .str z ∧ Rr (Its z) H1
section
variable {X : Cx} {tge l : Expr} {tl : TE}
omit [Tbs] in
theorem pi_any (hl : PE X l tl) : PI X tge l (iAny X.K tl) := by
  refine ⟨fun pins s σ H Rr I h => ?_⟩
  refine thn (hl.run pins s σ H _ I h) fun v s1 ⟨x, H1, I1, r1, q1⟩ => ?_
  rcases q1 with ⟨a, xs, e, hq, q⟩ | ⟨a, xs, e, hq, q⟩ | ⟨z, e, q⟩
  · subst e
    cases r1
    obtain ⟨its, rv, p, hz⟩ := I1.list hq
    refine wpAny_pyIter_list p.isList ?_
    refine ⟨s1.heap.objs.size, [s1.heap.objs.size], _, _, H1, rfl, I1.kept (t' := s1.toks) fun b o e => Heap.get?_push_of_some _ e, turn_list a _, ⟨_, Heap.get?_push_size _ rfl, rfl, rfl⟩, fun b hb => ?_, q hz⟩
    have e : b = s1.heap.objs.size := by simpa using hb
    subst e
    exact I1.fpOk (Nat.le_refl _) (I1.hok.fresh (Nat.le_refl _))
  · subst e
    cases r1
    obtain ⟨its, rv, p, hz⟩ := I1.tuple hq
    refine wpAny_pyIter_tuple (show s1.heap.IsTuple a its.toArray from p) ?_
    refine ⟨s1.heap.objs.size, [s1.heap.objs.size], _, _, H1, rfl, I1.kept (t' := s1.toks) fun b o e => Heap.get?_push_of_some _ e, turn_tuple a _, ⟨_, Heap.get?_push_size _ rfl, rfl, rfl⟩, fun b hb => ?_, q hz⟩
    have e : b = s1.heap.objs.size := by simpa using hb
    subst e
    exact I1.fpOk (Nat.le_refl _) (I1.hok.fresh (Nat.le_refl _))
  · subst e
    obtain ⟨t, rfl⟩ := r1
    cases ha : z.cps.all (· < 128)
    · exact wpAny_pyIter_wide ha (pi_one (tk := s1.toks) I1 _ (turn_str _ z t "str_iterator" (.inr rfl)) ⟨_, Heap.get?_push_size _ rfl, rfl, rfl⟩ q)
    · exact wpAny_pyIter_ascii ha (pi_one (tk := s1.toks) I1 _ (turn_str _ z t "str_ascii_iterator" (.inl rfl)) ⟨_, Heap.get?_push_size _ rfl, rfl, rfl⟩ q)
end
def gIter (g : List D → R D) : List D → R (List D) := fun ρ => g ρ >>= dIter
theorem yld_list {K : PySem.W.Frag} {F H0 S : Hp} {m : M} {a : Addr} {vs : List V} {ds : List D} (hs : SqL K S a vs) (hS : ∀ H', Same F H' → Same H0 H' → Same S H') (hl : vs.length = ds.length)
    (hi : ∀ (i : Nat) (v : V), vs[i]? = some v → ∃ d, ds[i]? = some d ∧ ∀ F' H', Same F F' → Rv K H0 F' H' m v d []) : Yld K (Itl K a) F H0 m ds := by
  have w := walk_list (K := K) (a := a) (xs := vs)
  rw [hl] at w
  refine Yld.mk' w (fun H' s1 s2 => (hS H' s1 s2).seq hs) fun i H' x H'' _ s1 s2 y F' s3 s4 => ?_
  obtain ⟨e, hx⟩ := y
  subst e
  obtain ⟨d, hd, rv⟩ := hi i x hx
  exact ⟨F', d, Ext.refl s4, hd, rv F' _ s3⟩
theorem yld_tup {K : PySem.W.Frag} {F H0 S : Hp} {m : M} {a : Addr} {vs : List V} {ds : List D} (hs : SqT K S a vs) (hS : ∀ H', Same F H' → Same H0 H' → Same S H') (hl : vs.length = ds.length)
    (hi : ∀ (i : Nat) (v : V), vs[i]? = some v → ∃ d, ds[i]? = some d ∧ ∀ F' H', Same F F' → Rv K H0 F' H' m v d []) : Yld K (Itt K a) F H0 m ds := by
  have w := walk_tup (K := K) (a := a) (xs := vs)
  rw [hl] at w
  refine Yld.mk' w (fun H' s1 s2 => Same.sqt (hS H' s1 s2) hs) fun i H' x H'' _ s1 s2 y F' s3 s4 => ?_
  obtain ⟨e, hx⟩ := y
  subst e
  obtain ⟨d, hd, rv⟩ := hi i x hx
  exact ⟨F', d, Ext.refl s4, hd, rv F' _ s3⟩
omit [Tbs] in
theorem BoL.getV {K : PySem.W.Frag} {H F : Hp} : ∀ {vs : List V} {ds : List D} {i : Nat} {v : V}, BoL K H F vs ds → vs[i]? = some v → ∃ d, ds[i]? = some d ∧ Bo K H F v d
  | _, _, i, d, .nil, e => by simp at e
  | _, _, 0, d, .cons h _, e => by simp at e; subst e; exact ⟨_, rfl, h⟩
  | _, _, i + 1, d, .cons _ hs, e => by
    obtain ⟨v, h1, h2⟩ := BoL.getV (i := i) (v := d) hs (by simpa using e)
    exact ⟨v, by simpa using h1, h2⟩
section
variable {K : PySem.W.Frag} {E : XK} {X : Cx} {Γ : List M} {e a b c0 tge : Expr} {es : List Expr} {t : TE} {ta : TA} {m : M} {ms : List M} {g : List D → R D} {gr : List D → R (List D)} {p pos : Pos} {k : Nat}
theorem si_any (h : SE K E Γ t m g) (hm : m = .fr ∨ m = .bo) : SI K E Γ (iAny K t) m (gIter g) := fun F0 H0 ρ σ F H fps Rr rel q => by
  refine h F0 H0 ρ σ F H fps _ rel ((RP.bind q).imp (fun d hd v F1 H1 fp x rv f => ?_) fun _ z => z)
  have hz : ∀ {α : Type} {n : Nat} {l : List α}, l.length = n → n ≤ sizeLine → l.length ≤ sizeLine := fun e h => by omega
  rcases hm with e | e
  · subst e
    cases d with
    | lst ds =>
      obtain ⟨a, vs, rfl, h1, h2⟩ := rv.1.listOf
      refine .inl ⟨a, vs, rfl, x.fh.seq h1, fun z => hd _ F1 H1 x (yld_list h1 (fun H' s _ => s) h2.length fun i v hv => ?_) (by rw [← h2.length]; exact z)⟩
      obtain ⟨d, hd, fz⟩ := h2.getV hv
      exact ⟨d, hd, fun F' H' s => ⟨fz.mono s, rfl⟩⟩
    | tup ds =>
      obtain ⟨a, vs, rfl, h1, h2⟩ := rv.1.tupOf
      refine .inr (.inl ⟨a, vs, rfl, Same.sqt x.fh h1, fun z => hd _ F1 H1 x (yld_tup h1 (fun H' s _ => s) h2.length fun i v hv => ?_) (by rw [← h2.length]; exact z)⟩)
      obtain ⟨d, hd, fz⟩ := h2.getV hv
      exact ⟨d, hd, fun F' H' s => ⟨fz.mono s, rfl⟩⟩
    | str z =>
      obtain ⟨c, hd⟩ := RP.ite hd
      have ev : v = .str z := (Bo.fz (H := H1) rv.1).strOf
      refine .inr (.inr ⟨z, ev, hd _ F1 H1 x ?_ (by rw [List.length_map, Array.length_toList]; exact c)⟩)
      have w := walk_str (z := z)
      have el : z.cps.size = (z.cps.toList.map fun c => D.str ⟨#[c]⟩).length := by rw [List.length_map, Array.length_toList]
      rw [el] at w
      refine Yld.mk' w (fun _ _ _ => trivial) fun i H' x H'' _ s1 s2 y F' s3 s4 => ?_
      obtain ⟨e, c, hc, ex⟩ := y
      subst e
      subst ex
      refine ⟨F', .str ⟨#[c]⟩, Ext.refl s4, ?_, .str _, rfl⟩
      rw [List.getElem?_map, Array.getElem?_toList, hc]
      rfl
    | _ => exact (show False from hd).elim
  · subst e
    cases d with
    | lst ds =>
      have hb : Bo K H0 F1 v (.lst ds) := rv.1
      cases hb with
      | fz hb =>
        obtain ⟨a, vs, rfl, h1, h2⟩ := hb.listOf
        refine .inl ⟨a, vs, rfl, x.fh.seq h1, fun z => hd _ F1 H1 x (yld_list h1 (fun H' s _ => s) h2.length fun i v hv => ?_) (by rw [← h2.length]; exact z)⟩
        obtain ⟨d, hd, fz⟩ := h2.getV hv
        exact ⟨d, hd, fun F' H' s => ⟨.fz (fz.mono s), rfl⟩⟩
      | @lst a vs _ h1 h2 =>
        refine .inl ⟨a, vs, rfl, (rel.h0.trans x.h).seq h1, fun z => hd _ F1 H1 x (yld_list h1 (fun H' _ s => s) h2.length fun i v hv => ?_) (by rw [← h2.length]; exact z)⟩
        obtain ⟨d, hd, bo⟩ := h2.getV hv
        exact ⟨d, hd, fun F' H' s => ⟨bo.mono (Same.refl _) s, rfl⟩⟩
    | tup ds =>
      obtain ⟨a, vs, rfl, h1, h2⟩ := rv.1.tupOf
      refine .inr (.inl ⟨a, vs, rfl, Same.sqt x.fh h1, fun z => hd _ F1 H1 x (yld_tup h1 (fun H' s _ => s) h2.length fun i v hv => ?_) (by rw [← h2.length]; exact z)⟩)
      obtain ⟨d, hd, fz⟩ := h2.getV hv
      exact ⟨d, hd, fun F' H' s => ⟨.fz (fz.mono s), rfl⟩⟩
    | str z =>
      obtain ⟨c, hd⟩ := RP.ite hd
      have ev : v = .str z := rv.1.strOf
      refine .inr (.inr ⟨z, ev, hd _ F1 H1 x ?_ (by rw [List.length_map, Array.length_toList]; exact c)⟩)
      have w := walk_str (z := z)
      have el : z.cps.size = (z.cps.toList.map fun c => D.str ⟨#[c]⟩).length := by rw [List.length_map, Array.length_toList]
      rw [el] at w
      refine Yld.mk' w (fun _ _ _ => trivial) fun i H' x H'' _ s1 s2 y F' s3 s4 => ?_
      obtain ⟨e, c, hc, ex⟩ := y
      subst e
      subst ex
      refine ⟨F', .str ⟨#[c]⟩, Ext.refl s4, ?_, .fz (.str _), rfl⟩
      rw [List.getElem?_map, Array.getElem?_toList, hc]
      rfl
    | _ => exact (show False from hd).elim
theorem di_any (U : Uni K E k X) (h : DE K E X Γ e t m g) (hm : m = .fr ∨ m = .bo := by first | exact .inl rfl | exact .inr rfl) : DI K E X Γ tge e (iAny K t) m (gIter g) := by
  have e0 := U.K
  subst e0
  exact ⟨pi_any h.pe, si_any h.se hm⟩
/-- a range -/
def intsFrom (lo c : Int) (n : Nat) : List D := (List.range n).map fun (i : Nat) => .int (lo + (i : Int) * c)
omit [Tbs] in
theorem intsFrom_get {lo c : Int} {n i : Nat} (h : i < n) : (intsFrom lo c n)[i]? = some (.int (lo + (i : Int) * c)) := by
  unfold intsFrom
  rw [List.getElem?_map, List.getElem?_range h]
  rfl
omit [Tbs] in
theorem intsFrom_len {lo c : Int} {n : Nat} : (intsFrom lo c n).length = n := by unfold intsFrom; simp
theorem yld_rangeC {F H0 : Hp} {lo c : Int} {n : Nat} : Yld K (Itc lo c n) F H0 .fr (intsFrom lo c n) := by
  have w := walk_rangeC (lo := lo) (c := c) (n := n)
  refine Yld.mk' (G := fun _ => True) (Y := YFn fun i => .int (lo + (i : Nat) * c)) (by rw [intsFrom_len]; exact w) (fun _ _ _ => trivial) fun i H' x H'' hi s1 s2 y F' s3 s4 => ?_
  obtain ⟨e, ex⟩ := y
  subst e
  subst ex
  rw [intsFrom_len] at hi
  exact ⟨F', _, Ext.refl s4, intsFrom_get hi, .int _, rfl⟩
theorem yld_range {F H0 : Hp} {lo : Int} {n : Nat} : Yld K (Itr lo n) F H0 .fr (intsFrom lo 1 n) := by
  have w := walk_range (lo := lo) (n := n)
  refine Yld.mk' (G := fun _ => True) (Y := YFn fun i => .int (lo + (i : Nat))) (by rw [intsFrom_len]; exact w) (fun _ _ _ => trivial) fun i H' x H'' hi s1 s2 y F' s3 s4 => ?_
  obtain ⟨e, ex⟩ := y
  subst e
  subst ex
  rw [intsFrom_len] at hi
  refine ⟨F', .int (lo + (i : Int) * 1), Ext.refl s4, intsFrom_get hi, ?_, rfl⟩
  rw [Int.mul_one]
  exact .int _
def dRng1 : List D → R (List D)
  | [.int j] => if -(2 ^ 62) ≤ j ∧ j.toNat ≤ sizeLine then .ok (intsFrom 0 1 j.toNat) else .bad
  | _ => .bad
def dRng2 : List D → R (List D)
  | [.int i, .int j] => if (-(2 ^ 62) ≤ i ∧ i < 2 ^ 62 ∧ -(2 ^ 62) ≤ j ∧ j < 2 ^ 62) ∧ (j - i).toNat ≤ sizeLine then .ok (intsFrom i 1 (j - i).toNat) else .bad
  | _ => .bad
instance (i j c : Int) (n : Nat) : Decidable (RgC i j c n) := by unfold RgC; infer_instance
def dRng3 : List D → R (List D)
  | [.int i, .int j, .int c] => if RgC i j c (Builtin.Range.rangeSize i j c).toNat ∧ (Builtin.Range.rangeSize i j c).toNat ≤ sizeLine then .ok (intsFrom i c (Builtin.Range.rangeSize i j c).toNat) else .bad
  | _ => .bad
def gI (f : List D → R (List D)) (g : List D → R (List D)) : List D → R (List D) := fun ρ => g ρ >>= f
omit [Tbs] in
theorem Rvs.inv {H0 F H : Hp} {m : M} {ms : List M} {vs : List V} {d : D} {ds : List D} (h : Rvs K H0 F H (m :: ms) vs (d :: ds)) : ∃ v vs', vs = v :: vs' ∧ Rv K H0 F H m v d [] ∧ Rvs K H0 F H ms vs' ds := by
  cases h with
  | cons h1 h2 => exact ⟨_, _, rfl, h1, h2⟩
omit [Tbs] in
theorem Rvs.inv0 {H0 F H : Hp} {vs : List V} (h : Rvs K H0 F H [] vs []) : vs = [] := by
  cases h; rfl
omit [Tbs] in
theorem sz62 {n : Nat} (h : n ≤ sizeLine) : (n : Int) < 2 ^ 62 := by
  have e : sizeLine = 16777216 := sizeLine_eq
  omega
theorem di_range1 (U : Uni K E k X) (h : DA K E X Γ [e] ta [.pk] gr) (hg : Gl X "range" := by rfl) (hs : starEach [e] X.env = [(false, eval e X.env)] := by rfl) : DI K E X Γ tge (.Call (.Name "range" p) [e] [] pos) (iRng1 ta) .fr (gI dRng1 gr) :=
  ⟨pi_range1 hg U.bn.range h.pa hs, fun F0 H0 ρ σ F H fps Rr rel q => by
    refine h.sa F0 H0 ρ σ F H fps _ rel ((RP.bind q).imp (fun ds hds vs F1 H1 x rv => ?_) fun _ z => z)
    match ds, hds, rv with
    | [.int j], hds, rv =>
      obtain ⟨⟨c1, c2⟩, hds⟩ := RP.ite (show RP (if _ then _ else _) _ _ from hds)
      obtain ⟨v, vs', rfl, r1, r2⟩ := rv.inv
      obtain rfl := r2.inv0
      obtain rfl := r1.1.intOf
      exact ⟨j, rfl, c1, by have := sz62 c2; omega, hds _ F1 H1 x yld_range (by rw [intsFrom_len]; exact c2)⟩
    | [], hds, _ => exact (show False from hds).elim
    | [.non], hds, _ => exact (show False from hds).elim
    | [.bl _], hds, _ => exact (show False from hds).elim
    | [.str _], hds, _ => exact (show False from hds).elim
    | [.tup _], hds, _ => exact (show False from hds).elim
    | [.lst _], hds, _ => exact (show False from hds).elim
    | [.ob _ _ _], hds, _ => exact (show False from hds).elim
    | [.cl _], hds, _ => exact (show False from hds).elim
    | [.ex _ _], hds, _ => exact (show False from hds).elim
    | _ :: _ :: _, _, rv => exact (by obtain ⟨_, _, _, _, r2⟩ := rv.inv; cases r2)⟩
end
end DL
/-! DLh: more ranges; comprehensions. -/
namespace DL
open PySem L2
variable [Tbs]

section
variable {K : PySem.W.Frag} {E : XK} {X : Cx} {Γ : List M} {e a b c tge : Expr} {es : List Expr} {t tb : TE} {ta : TA} {m : M} {ms : List M} {g gb : List D → R D} {gr : List D → R (List D)} {p pos p2 pos2 : Pos} {k : Nat}
theorem di_range2 (U : Uni K E k X) (h : DA K E X Γ [a, b] ta [.pk, .pk] gr) (hg : Gl X "range" := by rfl) (hs : starEach [a, b] X.env = [(false, eval a X.env), (false, eval b X.env)] := by rfl) (hs2 : starEach [b] X.env = [(false, eval b X.env)] := by rfl) :
    DI K E X Γ tge (.Call (.Name "range" p) [a, b] [] pos) (iRng2 ta) .fr (gI dRng2 gr) :=
  ⟨pi_range2 hg U.bn.range h.pa hs hs2, fun F0 H0 ρ σ F H fps Rr rel q => by
    refine h.sa F0 H0 ρ σ F H fps _ rel ((RP.bind q).imp (fun ds hds vs F1 H1 x rv => ?_) fun _ z => z)
    cases rv with
    | @cons _ _ v d vs ds r1 rv =>
    cases rv with
    | @cons _ _ v' d' vs ds r2 rv =>
    cases rv with
    | nil =>
    cases d with
    | int i =>
      cases d' with
      | int j =>
        obtain ⟨⟨c1, c2⟩, hds⟩ := RP.ite (show RP (if _ then _ else _) _ _ from hds)
        obtain rfl := r1.1.intOf
        obtain rfl := r2.1.intOf
        exact ⟨i, j, rfl, c1, hds _ F1 H1 x yld_range (by rw [intsFrom_len]; exact c2)⟩
      | _ => exact (show False from hds).elim
    | _ => exact (show False from hds).elim⟩
theorem di_range3 (U : Uni K E k X) (h : DA K E X Γ [a, b, c] ta [.pk, .pk, .pk] gr) (hg : Gl X "range" := by rfl) (hs : starEach [a, b, c] X.env = (false, eval a X.env) :: starEach [b, c] X.env := by rfl) (hpl : (backTo pos (starEach [b, c] X.env)).any (·.1) = false := by rfl) :
    DI K E X Γ tge (.Call (.Name "range" p) [a, b, c] [] pos) (iRng3 ta) .fr (gI dRng3 gr) :=
  ⟨pi_range3 hg U.bn.range h.pa hs hpl, fun F0 H0 ρ σ F H fps Rr rel q => by
    refine h.sa F0 H0 ρ σ F H fps _ rel ((RP.bind q).imp (fun ds hds vs F1 H1 x rv => ?_) fun _ z => z)
    cases rv with
    | @cons _ _ v d vs ds r1 rv =>
    cases rv with
    | @cons _ _ v' d' vs ds r2 rv =>
    cases rv with
    | @cons _ _ v2 d2 vs ds r3 rv =>
    cases rv with
    | nil =>
    cases d with
    | int i =>
      cases d' with
      | int j =>
        cases d2 with
        | int l =>
          obtain ⟨⟨c1, c2⟩, hds⟩ := RP.ite (show RP (if _ then _ else _) _ _ from hds)
          obtain rfl := r1.1.intOf
          obtain rfl := r2.1.intOf
          obtain rfl := r3.1.intOf
          exact ⟨i, j, l, _, rfl, c1, hds _ F1 H1 x yld_rangeC (by rw [intsFrom_len]; exact c2)⟩
        | _ => exact (show False from hds).elim
      | _ => exact (show False from hds).elim
    | _ => exact (show False from hds).elim⟩
/-- reversed(range(n)) -/
def dRev1 : D → R (List D)
  | .int j => if -(2 ^ 62) ≤ j ∧ j.toNat ≤ sizeLine then .ok (intsFrom ((j.toNat : Int) - 1) (-1) j.toNat) else .bad
  | _ => .bad
def gJ (f : D → R (List D)) (g : List D → R D) : List D → R (List D) := fun ρ => g ρ >>= f
theorem di_rev1 (U : Uni K E k X) (h : DE K E X Γ a t m g) (hg : Gl X "reversed" := by rfl) (hg2 : Gl X "range" := by rfl)
    (hs : starEach [(.Call (.Name "range" p2) [a] [] pos2 : Expr)] X.env = (false, eval (.Call (.Name "range" p2) [a] [] pos2) X.env) :: starEach [] X.env := by rfl) (na : starEach [a] X.env = (false, eval a X.env) :: starEach [] X.env := by rfl) :
    DI K E X Γ tge (.Call (.Name "reversed" p) [.Call (.Name "range" p2) [a] [] pos2] [] pos) (iRevR (tRg1 t)) .fr (gJ dRev1 g) :=
  ⟨pi_revR hg U.bn.reversed (prg_1 hg2 U.bn.range h.pe na) hs, fun F0 H0 ρ σ F H fps Rr rel q => by
    refine h.se.pk F0 H0 ρ σ F H fps _ rel ((RP.bind q).imp (fun d hds v F1 H1 fp x rv f => ?_) fun _ z => z)
    cases d with
    | int j =>
      obtain ⟨⟨c1, c2⟩, hds⟩ := RP.ite (show RP (if _ then _ else _) _ _ from hds)
      obtain rfl := rv.1.intOf
      refine ⟨j, rfl, by decide, by decide, c1, by have := sz62 c2; omega, ?_⟩
      have e : (j - 0).toNat = j.toNat := by rw [Int.sub_zero]
      rw [e, Int.zero_add]
      exact hds _ F1 H1 x yld_rangeC (by rw [intsFrom_len]; exact c2)
    | _ => exact (show False from hds).elim⟩
end

/-! ### comprehensions -/
def noX {α : Type} : R α → R α
  | .exc _ => .bad
  | r => r
omit [Tbs] in
@[simp] theorem noX_ok {α : Type} (a : α) : noX (R.ok a) = R.ok a := rfl
omit [Tbs] in
@[simp] theorem noX_bad {α : Type} : noX (R.bad : R α) = R.bad := rfl
def mapL (f : D → R (Option D)) : List D → R (List D)
  | [] => .ok []
  | d :: ds => f d >>= fun o => mapL f ds >>= fun ys => .ok (match o with | some y => y :: ys | none => ys)
def gtt : List D → R Bool := fun _ => .ok true
def gLc (src : List D → R (List D)) (gt : D → List D → Option (List D)) (tt : List D → R Bool) (ge : List D → R D) : List D → R D := fun ρ => src ρ >>= fun ds =>
  mapL (fun d => noX (oR (gt d ρ) >>= fun ρ' => tt ρ' >>= fun b => if b = true then ge ρ' >>= fun y => .ok (some y) else .ok none)) ds >>= fun ys => .ok (.lst ys)
def wipeM (Γ : List M) : List Nat → List M
  | [] => Γ
  | v :: vs => (wipeM Γ vs).set v .un
omit [Tbs] in
theorem wipeM_length (Γ : List M) : ∀ vs : List Nat, (wipeM Γ vs).length = Γ.length
  | [] => rfl
  | v :: vs => by unfold wipeM; rw [List.length_set, wipeM_length Γ vs]
omit [Tbs] in
theorem wipeM_getD {Γ : List M} {i : Nat} : ∀ {vs : List Nat}, (wipeM Γ vs).getD i .un = if i ∈ vs then .un else Γ.getD i .un
  | [] => by rw [if_neg (by simp)]; rfl
  | v :: vs => by
    have ih := wipeM_getD (Γ := Γ) (i := i) (vs := vs)
    unfold wipeM
    by_cases h : v = i
    · subst h
      rw [if_pos (by simp)]
      rw [List.getD_eq_getElem?_getD]
      by_cases hl : v < (wipeM Γ vs).length
      · rw [List.getElem?_set_self hl]; rfl
      · rw [List.getElem?_eq_none (by simpa using hl)]; rfl
    · rw [List.getD_eq_getElem?_getD, List.getElem?_set_ne h, ← List.getD_eq_getElem?_getD, ih]
      by_cases h2 : i ∈ vs
      · rw [if_pos h2, if_pos (List.mem_cons_of_mem _ h2)]
      · rw [if_neg h2, if_neg (by simp only [List.mem_cons, not_or]; exact ⟨fun e => h e.symm, h2⟩)]
omit [Tbs] in
theorem wipe_get {σ : St} {i : Nat} : ∀ {vs : List Nat}, i ∉ vs → (wipe σ vs)[i]? = σ[i]?
  | [], _ => rfl
  | v :: vs, h => by
    simp only [List.mem_cons, not_or] at h
    unfold wipe
    rw [List.getElem?_set_ne (fun e => h.1 e.symm), wipe_get h.2]
omit [Tbs] in
theorem wipe_in {σ : St} {i : Nat} : ∀ {vs : List Nat}, i ∈ vs → i < σ.length → (wipe σ vs)[i]? = some none
  | [], h, _ => nomatch h
  | v :: vs, h, hl => by
    unfold wipe
    by_cases e : v = i
    · subst e
      rw [List.getElem?_set_self (by rw [wipe_length]; exact hl)]
    · rw [List.getElem?_set_ne e]
      rcases List.mem_cons.mp h with z | z
      · exact absurd z.symm e
      · exact wipe_in z hl
omit [Tbs] in
/-- two states that differ within vs alone are the same, wiped -/
theorem wipe_same {σ σ2 : St} {vs is : List Nat} (hs : ∀ i ∈ is, i ∈ vs) (h : ∀ j, j ∉ is → σ2[j]? = (wipe σ vs)[j]?) (hl : σ2.length = (wipe σ vs).length) : wipe σ2 vs = wipe σ vs := by
  have hl' : σ2.length = σ.length := by rw [hl, wipe_length]
  refine List.ext_getElem? fun j => ?_
  by_cases hj : j ∈ vs
  · by_cases hlt : j < σ.length
    · rw [wipe_in hj hlt, wipe_in hj (by rw [hl']; exact hlt)]
    · rw [List.getElem?_eq_none (by rw [wipe_length]; omega), List.getElem?_eq_none (by rw [wipe_length]; omega)]
  · rw [wipe_get hj, h j fun z => hj (hs j z), wipe_get hj]
theorem Rel.wiped {K : PySem.W.Frag} {F0 H0 F H : Hp} {Γ : List M} {ρ : List D} {σ : St} {fps : Nat → List Addr} (r : Rel K F0 H0 Γ ρ σ F H fps) (vs : List Nat) : Rel K F0 H0 (wipeM Γ vs) ρ (wipe σ vs) F H (fun j => if j ∈ vs then [] else fps j) := by
  refine ⟨r.fh, r.f0, r.h0, r.tb, r.new, by rw [wipeM_length, wipe_length]; exact r.lg, by rw [wipe_length]; exact r.lr, fun i => ?_, fun i => ?_, fun i j a hi hj => ?_, fun i a hi => ?_⟩
  · rw [wipeM_getD]
    by_cases h : i ∈ vs
    · rw [if_pos h, if_pos h]
      exact .inl ⟨rfl, rfl⟩
    · rw [if_neg h, if_neg h]
      have e : (wipe σ vs).getD i Option.none = σ.getD i Option.none := by rw [List.getD_eq_getElem?_getD, wipe_get h, ← List.getD_eq_getElem?_getD]
      rw [e]
      exact r.sl i
  · by_cases h : i ∈ vs
    · rw [if_pos h]; exact List.nodup_nil
    · rw [if_neg h]; exact r.nd i
  · by_cases h : i ∈ vs
    · rw [if_pos h] at hi; cases hi
    · rw [if_neg h] at hi
      by_cases h' : j ∈ vs
      · rw [if_pos h'] at hj; cases hj
      · rw [if_neg h'] at hj; exact r.dj i j a hi hj
  · by_cases h : i ∈ vs
    · rw [if_pos h] at hi; cases hi
    · rw [if_neg h] at hi; exact r.ow i a hi
omit [Tbs] in
theorem RP.noX {α : Type} {r : R α} {P : α → Prop} {X X' : Ex → Prop} (h : RP (DL.noX r) P X) : RP r P X' := by
  cases r with
  | ok a => exact h
  | exc x => exact h.elim
  | bad => exact h
omit [Tbs] in
theorem upd_keeps {H H' : Hp} {p : Addr} {o : HO} (h : Same H H') (hp : H p = none) : Same H (upd H' p o) := ⟨fun a u q n => by rw [upd_ne (ne_of_none q hp)]; exact h.keep _ _ q n, fun a q => by
  by_cases z : a = p
  · subst z; exact hp
  · rw [upd_ne z] at q; exact h.there _ q⟩
section
variable {K : PySem.W.Frag} {E : XK} {X : Cx} {Γ Γ' : List M} {m mm : M} {is vs : List Nat} {wi : TI} {tg : TG} {tt : TT} {te : TE} {src : List D → R (List D)} {gt : D → List D → Option (List D)} {gtt : List D → R Bool} {ge : List D → R D}
theorem se_lc (hi : SI K E Γ wi m src) (hg : SG K (wipeM Γ vs) Γ' m is tg gt) (hs : ∀ i ∈ is, i ∈ vs) (ht : ST K E0 Γ' tt gtt) (he : SE K E0 Γ' te mm ge) (hm : mm.st = true) : SE K E Γ (tLc wi tg tt te vs) (.ow mm) (gLc src gt gtt ge) := fun F0 H0 ρ σ F H fps Q rel q => by
  refine hi F0 H0 ρ σ F H fps _ rel ((RP.bind q).imp (fun ds hds J F1 H1 x1 Y hz => ?_) fun _ z => z)
  intro D hD
  have h0D : H0 D = none := rel.h0.free (x1.h.free hD)
  have relW := rel.wiped vs
  refine lc_it Y.walk (fun i H' => ∃ F' acc ys fp, Ext F H F' H' ∧ Same F1 F' ∧ H' D = some (.lst acc) ∧ Al (Rv K H0 F' H' mm) acc ys fp ∧ Fresh H F' (D :: fp) ∧ acc.length ≤ i ∧
      RP (mapL (fun d => noX (oR (gt d ρ) >>= fun ρ' => gtt ρ' >>= fun b => if b = true then ge ρ' >>= fun y => .ok (some y) else .ok none)) (ds.drop i)) (fun zs => VP K H0 F H (.ow mm) (.lst (ys ++ zs)) Q) (XP K E F H))
    ⟨F1, [], [], [], ?_, Same.refl _, upd_same, rfl, ?_, Nat.le_refl _, ?_⟩ (fun i H' _ ⟨F', _, _, _, x, s, _⟩ => ⟨s.trans x.fh, rel.h0.trans x.h⟩) ?_ ?_
  · exact x1.trans (Ext.made x1.fh hD)
  · exact ⟨by simp, fun a ha => by
      have e : a = D := by simpa using ha
      subst e
      exact ⟨x1.h.free hD, x1.fh.free hD⟩⟩
  · rw [List.drop_zero]
    exact RP.imp (RP.bind hds) (fun zs hzs => hzs) fun _ z => z
  · rintro i v H' H'' hi ⟨F', acc, ys, fp, x, s, hacc, hal, hfr, hlen, hq⟩ y
    obtain ⟨F'', d, x2, hd, rv⟩ := y F' s x.fh
    have hlt : i < ds.length := hi
    have hdrop : ds.drop i = d :: ds.drop (i + 1) := by
      rw [List.drop_eq_getElem_cons hlt]
      rw [List.getElem?_eq_getElem hlt] at hd
      rw [Option.some.inj hd]
    rw [hdrop] at hq
    have rel2 := (relW.ext x).ext x2
    refine hg F0 H0 ρ (wipe σ vs) F'' H'' _ v d _ rel2 rv ?_
    have hq2 := RP.bind (RP.noX (X' := fun _ => False) (RP.bind hq))
    refine RP.oR hq2 (fun ρ2 q2 σ2 fps2 rel3 o2 l2 => ⟨wipe_same hs o2 l2, ?_⟩)
    refine ht F0 H0 ρ2 σ2 F'' H'' fps2 _ rel3 ((RP.bind q2).imp (fun bb qb F3 H3 x3 => ?_) fun _ z => z.elim)
    have hD3 : H3 D = some (.lst acc) := x3.h.at_ (x2.h.at_ hacc)
    have frx : ∀ {Fa Ha : Hp}, Ext F' H' Fa Ha → Fresh H Fa (D :: fp) := fun xx => hfr.on xx fun a ha => by
      rcases List.mem_cons.mp ha with z | z
      · rw [z]; exact ⟨_, hacc⟩
      · exact Al.there (P := fun a => ∃ o, H' a = some o) (fun v d f h => h.there) hal a z
    refine ite_tt (fun e => ?_) fun e => ?_
    · subst e
      refine he F0 H0 ρ2 σ2 F3 H3 fps2 _ (rel3.ext x3) ((RP.bind (show RP (ge ρ2 >>= _) _ _ from qb)).imp (fun yd hy yv F4 H4 fpy x4 rvy fy => ?_) fun _ z => z.elim)
      have x24 : Ext F' H' F4 H4 := x2.trans (x3.trans x4)
      have hD4 : H4 D = some (.lst acc) := x4.h.at_ hD3
      have fr4 := frx x24
      have hDF : F4 D = none := (fr4.un D List.mem_cons_self).2
      have hDH : H D = none := (fr4.un D List.mem_cons_self).1
      refine ⟨acc, hD4, Nat.lt_of_le_of_lt hlen (Nat.lt_of_lt_of_le hlt hz), F4, acc ++ [yv], ys ++ [yd], fp ++ fpy, ?_, s.trans x24.f, upd_same, ?_, ?_, ?_, ?_⟩
      · exact ⟨x.f.trans x24.f, upd_keeps (x.h.trans x24.h) hDH, upd_keeps x24.fh hDF, fun a o q => by
          rcases x24.new a o q with z | z
          · exact x.new a o z
          · exact .inr (x.h.free z), fun t => TbsOk.upd (x24.tb (x.tb t)) ⟨hD4, rfl⟩⟩
      · have nd := fr4.nd
        rw [List.nodup_cons] at nd
        have hDy : D ∉ fpy := fun z => by rw [(fy.un D z).1] at hD3; cases hD3
        refine Al.append (hal.imp fun v d f hf q => q.keep x24.f hm fun a ha o wz z => ?_) (Al.one (rvy.keep (Same.refl _) hm fun a ha o wz z => ?_))
        · rw [upd_ne (fun e => nd.1 (by rw [← e]; exact hf a ha))]; exact x24.h.at_ z (notTbl_own wz)
        · rw [upd_ne (fun e => hDy (by rw [← e]; exact ha))]; exact z
      · have nd := fr4.nd
        rw [List.nodup_cons] at nd
        have hDy : D ∉ fpy := fun z => by rw [(fy.un D z).1] at hD3; cases hD3
        have th : ∀ a ∈ fp, ∃ o, H3 a = some o := fun a ha => by
          obtain ⟨o, z⟩ := Al.there (P := fun a => ∃ o, H' a = some o) (fun v d f h => h.there) hal a ha
          obtain ⟨o, z⟩ := x2.h.ex z
          exact x3.h.ex z
        refine ⟨List.nodup_cons.mpr ⟨fun z => ?_, List.nodup_append.mpr ⟨nd.2, fy.nd, fun a ha b hb e => ?_⟩⟩, fun a ha => ?_⟩
        · rcases List.mem_append.mp z with z | z
          · exact nd.1 z
          · exact hDy z
        · subst e
          obtain ⟨o, z⟩ := th a ha
          rw [(fy.un a hb).1] at z; cases z
        · rcases List.mem_cons.mp ha with z | z
          · rw [z]; exact ⟨hDH, hDF⟩
          · rcases List.mem_append.mp z with z | z
            · exact fr4.un a (List.mem_cons_of_mem _ z)
            · exact ⟨x.h.free (x2.h.free (x3.h.free (fy.un a z).1)), (fy.un a z).2⟩
      · rw [List.length_append, List.length_singleton]; omega
      · refine RP.imp (RP.bind (show RP (mapL _ _ >>= fun ys => R.ok (yd :: ys)) _ _ from hy)) (fun zs hzs => ?_) fun _ z => z
        have hzs' : VP K H0 F H (.ow mm) (.lst (ys ++ yd :: zs)) Q := hzs
        rw [List.append_assoc]
        exact hzs'
    · subst e
      have x23 : Ext F' H' F3 H3 := x2.trans x3
      refine ⟨F3, acc, ys, fp, x.trans x23, s.trans x23.f, hD3, hal.imp fun v d f _ q => q.grow x23.f x23.h, frx x23, Nat.le_succ_of_le hlen, ?_⟩
      have qb' : RP (mapL _ _ >>= fun ys => R.ok ys) _ _ := qb
      exact RP.imp (RP.bind qb') (fun zs hzs => hzs) fun _ z => z
  · rintro H' ⟨F', acc, ys, fp, x, s, hacc, hal, hfr, hlen, hq⟩
    rw [List.drop_length] at hq
    have hq' : VP K H0 F H (.ow mm) (.lst (ys ++ [])) Q := hq
    rw [List.append_nil] at hq'
    exact hq' (.ref D) F' H' (D :: fp) x ⟨D, acc, fp, rfl, hacc, hal, rfl⟩ hfr

/-- [e for target in iter if test] -/
theorem de_lc {X : Cx} {Γ : List M} {k : Nat} {elt tge iter : Expr} {ifs : List Expr} {scope : Scope} {own : List (Str × Nat)} {pos : Pos} (U : Uni K E k X) (hi : DI K E X Γ tge iter wi m src) (ok : BlkOk X.N X.env.scope scope own)
    (hg : ∀ (s : Shared) (H : Hp) (C : Addr) (cl : List (Str × Addr)) (fp : List Addr), Uni K E0 k (X.blk s H scope (compEnvC scope cl C X.env) fp) → DG K (X.blk s H scope (compEnvC scope cl C X.env) fp) (wipeM Γ (own.map (·.2))) Γ' m is tge tg gt)
    (ht : ∀ (s : Shared) (H : Hp) (C : Addr) (cl : List (Str × Addr)) (fp : List Addr), Uni K E0 k (X.blk s H scope (compEnvC scope cl C X.env) fp) → PTs (X.blk s H scope (compEnvC scope cl C X.env) fp) ifs tt ∧ ST K E0 Γ' tt gtt)
    (he : ∀ (s : Shared) (H : Hp) (C : Addr) (cl : List (Str × Addr)) (fp : List Addr), Uni K E0 k (X.blk s H scope (compEnvC scope cl C X.env) fp) → DE K E0 (X.blk s H scope (compEnvC scope cl C X.env) fp) Γ' elt te mm ge)
    (hs : ∀ i ∈ is, i ∈ own.map (·.2) := by decide) (hm : mm.st = true := by rfl) (hf : ∀ x, foldedSetIterable iter X.env x = pure x := by intro _; rfl) :
    DE K E X Γ (.ListComp elt [⟨tge, iter, ifs, 0⟩] scope pos) (tLc wi tg tt te (own.map (·.2))) (.ow mm) (gLc src gt gtt ge) := by
  have UB : ∀ (s : Shared) (H : Hp) (C : Addr) (cl : List (Str × Addr)) (fp : List Addr), Uni K E0 k (X.blk s H scope (compEnvC scope cl C X.env) fp) := fun s H C cl fp =>
    ⟨U.K, U.nd, U.calm, U.room, U.hu, PassesOwn.never, passL, takes0, U.bn⟩
  have s0 : Shared := X.s_0
  refine ⟨pe_lc U.calm U.nd hi.pi ok (fun s H C cl fp => (hg s H C cl fp (UB s H C cl fp)).pg) (fun s H C cl fp => (ht s H C cl fp (UB s H C cl fp)).1) (fun s H C cl fp => (he s H C cl fp (UB s H C cl fp)).pe) hf, ?_⟩
  exact se_lc hi.si (hg s0 (fun _ => none) 0 [] [] (UB _ _ _ _ _)).sg hs (ht s0 (fun _ => none) 0 [] [] (UB _ _ _ _ _)).2 (he s0 (fun _ => none) 0 [] [] (UB _ _ _ _ _)).se hm
end
end DL
/-! DLi: subscripts, slices, built-ins by name, changes of own lists. -/
namespace DL
open PySem L2
variable [Tbs]

section
variable {K : PySem.W.Frag} {E : XK} {X : Cx} {Γ : List M} {e a b c : Expr} {es : List Expr} {t ta tb : TE} {tr : TA} {m ma mb : M} {ms : List M} {g ga gb : List D → R D} {gr : List D → R (List D)} {p pos : Pos} {k : Nat}
/-! ### x[i] -/
def dIx : D → D → R D
  | .lst ds, .int i => oR (atI ds i)
  | .tup ds, .int i => oR (atI ds i)
  | .str z, .int i => if z.length ≤ sizeLine then oR ((atI z.cps.toList i).map fun c => .str ⟨#[c]⟩) else .bad
  | _, _ => .bad
omit [Tbs] in
theorem atI_len {α β : Type} {xs : List α} {ys : List β} (h : xs.length = ys.length) {i : Int} {y : β} (e : atI ys i = some y) : ∃ j : Nat, ys[j]? = some y ∧ ∀ x, xs[j]? = some x → atI xs i = some x := by
  unfold atI at e ⊢
  rw [h]
  cases q : ixN ys.length i with
  | none => rw [q] at e; cases e
  | some j =>
    rw [q] at e
    exact ⟨j, e, fun x hx => hx⟩
omit [Tbs] in
theorem oR_ok {α : Type} {o : Option α} {P : α → Prop} {X : Ex → Prop} (h : RP (oR o) P X) : ∃ a, o = some a ∧ P a := by
  cases o with
  | some a => exact ⟨a, rfl, h⟩
  | none => exact h.elim
omit [Tbs] in
theorem oR_x {α : Type} {o : Option α} {e : Ex} : oR o ≠ .exc e := by
  cases o <;> exact fun z => nomatch z
theorem se_ix (hm : m = .fr ∨ m = .bo ∨ m = .pk) (ha : SE K E Γ ta m ga) (hb : SE K E Γ tb mb gb) : SE K E Γ (tOp (rIx K) ta tb) m (g2 dIx ga gb) := fun F0 H0 ρ σ F H fps Q r q => by
  refine ha F0 H0 ρ σ F H fps _ r ((RP.bind q).imp (fun dx q1 x F1 H1 fp1 e1 rv1 f1 => ?_) fun _ z => z)
  refine hb.pk F0 H0 ρ σ F1 H1 fps _ (r.ext e1) ((RP.bind q1).imp (fun dy q2 y F2 H2 fp2 e2 rv2 f2 => ?_) fun _ z => z.on e1)
  have rv1' := rv1.grow e2.f e2.h
  have key : ∀ v d, Rv K H0 F2 H2 m v d [] → VP K H0 F H m d Q → Q v H2 := fun v d rv h => h v F2 H2 [] (e1.trans e2) rv Fresh.nil
  have h02 : Same H0 H2 := r.h0.trans (e1.h.trans e2.h)
  have lists : ∀ ds i, dx = .lst ds → dy = .int i → rIx K x y H2 Q := fun ds i ex ey => by
    subst ex; subst ey
    obtain ⟨d, hd, hq⟩ := oR_ok q2
    obtain rfl := rv2.1.intOf
    rcases hm with e | e | e
    · subst e
      obtain ⟨a, vs, rfl, h1, h2⟩ := rv1'.1.listOf
      obtain ⟨j, hj, hx⟩ := atI_len h2.length hd
      obtain ⟨v, hv, hf⟩ := h2.get hj
      exact .inl ⟨a, vs, i, v, rfl, rfl, e2.fh.seq h1, hx v hv, key v d ⟨hf, rfl⟩ hq⟩
    · subst e
      have hb : Bo K H0 F2 x (.lst ds) := rv1'.1
      cases hb with
      | fz hb =>
        obtain ⟨a, vs, rfl, h1, h2⟩ := hb.listOf
        obtain ⟨j, hj, hx⟩ := atI_len h2.length hd
        obtain ⟨v, hv, hf⟩ := h2.get hj
        exact .inl ⟨a, vs, i, v, rfl, rfl, e2.fh.seq h1, hx v hv, key v d ⟨.fz hf, rfl⟩ hq⟩
      | @lst a vs _ h1 h2 =>
        obtain ⟨j, hj, hx⟩ := atI_len h2.length hd
        obtain ⟨v, hv, hf⟩ := h2.get hj
        exact .inl ⟨a, vs, i, v, rfl, rfl, h02.seq h1, hx v hv, key v d ⟨hf, rfl⟩ hq⟩
    · subst e
      obtain ⟨a, vs, rfl, h1, h2⟩ := rv1'.1.listOf e2.fh
      obtain ⟨j, hj, hx⟩ := atI_len h2.length hd
      obtain ⟨v, hv, hf⟩ := h2.get hj
      exact .inl ⟨a, vs, i, v, rfl, rfl, h1, hx v hv, key v d ⟨hf, rfl⟩ hq⟩
  have tups : ∀ ds i, dx = .tup ds → dy = .int i → rIx K x y H2 Q := fun ds i ex ey => by
    subst ex; subst ey
    obtain ⟨d, hd, hq⟩ := oR_ok q2
    obtain rfl := rv2.1.intOf
    have fin : Fz K F2 x (.tup ds) → (∀ v d, Fz K F2 v d → Rv K H0 F2 H2 m v d []) → rIx K x (.int i) H2 Q := fun hz hr => by
      obtain ⟨a, vs, rfl, h1, h2⟩ := hz.tupOf
      obtain ⟨j, hj, hx⟩ := atI_len h2.length hd
      obtain ⟨v, hv, hf⟩ := h2.get hj
      exact .inr (.inl ⟨a, vs, i, v, rfl, rfl, Same.sqt e2.fh h1, hx v hv, key v d (hr v d hf) hq⟩)
    rcases hm with e | e | e
    · subst e
      exact fin rv1'.1 fun v d h => ⟨h, rfl⟩
    · subst e
      exact fin ((show Bo K H0 F2 x (.tup ds) from rv1'.1).fix rfl) fun v d h => ⟨.fz h, rfl⟩
    · subst e
      exact fin ((show Bo K H2 F2 x (.tup ds) from rv1'.1).fix rfl) fun v d h => ⟨.fz h, rfl⟩
  have txts : ∀ z i, dx = .str z → dy = .int i → rIx K x y H2 Q := fun z i ex ey => by
    subst ex; subst ey
    obtain ⟨c, q2⟩ := RP.ite (show RP (if _ then _ else _) _ _ from q2)
    obtain ⟨d, hd, hq⟩ := oR_ok q2
    obtain rfl := rv2.1.intOf
    obtain rfl := (rv1'.pk e2.fh h02).strOf
    obtain ⟨ch, hc, rfl⟩ := Option.map_eq_some_iff.mp hd
    refine .inr (.inr ⟨z, i, ch, rfl, rfl, c, hc, key _ _ ?_ hq⟩)
    rcases hm with e | e | e <;> subst e
    · exact ⟨.str _, rfl⟩
    · exact ⟨.fz (.str _), rfl⟩
    · exact ⟨.fz (.str _), rfl⟩
  cases dx with
  | lst ds =>
    cases dy with
    | int i => exact lists ds i rfl rfl
    | _ => exact (show False from q2).elim
  | tup ds =>
    cases dy with
    | int i => exact tups ds i rfl rfl
    | _ => exact (show False from q2).elim
  | str z =>
    cases dy with
    | int i => exact txts z i rfl rfl
    | _ => exact (show False from q2).elim
  | _ => cases dy <;> exact (show False from q2).elim
theorem de_ix (U : Uni K E k X) (ha : DE K E X Γ a ta m ga) (hb : DE K E X Γ b tb mb gb) (hm : m = .fr ∨ m = .bo ∨ m = .pk := by first | exact .inl rfl | exact .inr (.inl rfl) | exact .inr (.inr rfl)) (hs : PlainIx b := by exact fun _ _ => rfl) : DE K E X Γ (.Subscript a b pos) (tOp (rIx K) ta tb) m (g2 dIx ga gb) := by
  have e := U.K
  subst e
  exact ⟨pe_ix ix_seq ha.pe hb.pe hs, se_ix hm ha.se hb.se⟩

/-! ### x[i:j] -/
structure DO (K : PySem.W.Frag) (E : XK) (X : Cx) (Γ : List M) (e : Option Expr) (t : TO) (g : List D → R (Option Int)) : Prop where
  po : PO X e t
  so : ∀ F0 H0 ρ σ F H fps Q, Rel K F0 H0 Γ ρ σ F H fps → RP (g ρ) (fun o => ∀ F' H', Ext F H F' H' → Q o H') (XP K E F H) → t σ H Q
def goN : List D → R (Option Int) := fun _ => .ok none
def toI : D → R (Option Int)
  | .int i => .ok (some i)
  | _ => .bad
def goS (g : List D → R D) : List D → R (Option Int) := fun ρ => g ρ >>= toI
theorem do_none : DO K E X Γ none tNoPart goN := ⟨po_none, fun F0 H0 ρ σ F H fps Q r q => q F H (Ext.refl r.fh)⟩
theorem do_some (h : DE K E X Γ e t m g) : DO K E X Γ (some e) (tPart t) (goS g) := ⟨po_some h.pe, fun F0 H0 ρ σ F H fps Q r q => by
  refine h.se.pk F0 H0 ρ σ F H fps _ r ((RP.bind q).imp (fun d hd v F' H' fp e rv f => ?_) fun _ z => z)
  cases d with
  | int i => exact ⟨i, rv.1.intOf, hd F' H' e⟩
  | _ => exact (show False from hd).elim⟩
def cutD {α : Type} (xs : List α) (lo hi : Option Int) : List α := (xs.drop (HT.sIx xs.length 0 lo)).take (HT.sIx xs.length xs.length hi - HT.sIx xs.length 0 lo)
def rSlD (K : PySem.W.Frag) : V → Option Int → Option Int → Hp → VK → Prop := fun x lo hi H Q => rSlL K x lo hi H Q ∨ rSlA K x lo hi H Q ∨ rSlS x lo hi H Q
omit [Tbs] in
theorem sl_any : SlR X (rSlD X.K) := sl_list.or (sl_tupA.or sl_str)
omit [Tbs] in
theorem FzL.cut {F : Hp} {vs : List V} {ds : List D} (h : FzL K F vs ds) (lo hi : Option Int) : FzL K F (cutV vs lo hi) (cutD ds lo hi) := by
  unfold cutV cutD
  rw [h.length]
  exact (h.drop _).take _
/-- nl: the items of a list must be no lists -/
def dSl (nl : Bool) (d : D) (lo hi : Option Int) : R D := match d with
  | .lst ds => if nl = true → ds.all nlB = true then .ok (.lst (cutD ds lo hi)) else .bad
  | .tup ds => .ok (.tup (cutD ds lo hi))
  | .str z => if z.length ≤ sizeLine then .ok (.str (cutS z lo hi)) else .bad
  | _ => .bad
def gSl (nl : Bool) (g : List D → R D) (gl gh : List D → R (Option Int)) : List D → R D := fun ρ => g ρ >>= fun d => gl ρ >>= fun lo => gh ρ >>= fun hi => dSl nl d lo hi
omit [Tbs] in
theorem cutD_whole {α : Type} {xs : List α} {lo hi : Option Int} (h : HT.sIx xs.length 0 lo = 0 ∧ HT.sIx xs.length xs.length hi = xs.length) : cutD xs lo hi = xs := by
  unfold cutD
  rw [h.1, h.2, List.drop_zero, Nat.sub_zero, List.take_length]
theorem se_slP {lo hi : Option Expr} {tl th : TO} {gl gh : List D → R (Option Int)} (h : SE K E Γ t m g) (hl : DO K E X Γ lo tl gl) (hh : DO K E X Γ hi th gh) (nl : Bool) (hm : nl = true ∨ m = .fr) : SE K E Γ (tSl (rSlD K) t tl th) (.ow .fr) (gSl nl g gl gh) := fun F0 H0 ρ σ F H fps Q r q => by
  refine h F0 H0 ρ σ F H fps _ r ((RP.bind q).imp (fun d q1 v F1 H1 fp1 e1 rv1 f1 => ?_) fun _ z => z)
  refine hl.so F0 H0 ρ σ F1 H1 fps _ (r.ext e1) ((RP.bind q1).imp (fun lo q2 F2 H2 e2 => ?_) fun _ z => z.on e1)
  refine hh.so F0 H0 ρ σ F2 H2 fps _ ((r.ext e1).ext e2) ((RP.bind q2).imp (fun hi q3 F3 H3 e3 => ?_) fun _ z => (z.on e1).on e2)
  have x3 : Ext F H F3 H3 := e1.trans (e2.trans e3)
  have bo : Bo K H3 F3 v d := (rv1.grow (e2.f.trans e3.f) (e2.h.trans e3.h)).pk x3.fh (r.h0.trans x3.h)
  cases d with
  | lst ds =>
    obtain ⟨c, q3⟩ := RP.ite (show RP (if _ then _ else _) _ _ from q3)
    have q4 : VP K H0 F H (.ow .fr) (.lst (cutD ds lo hi)) Q := q3
    have fl : ∃ a vs, v = .ref a ∧ SqL K H3 a vs ∧ FzL K F3 vs ds := by
      rcases hm with e | e
      · obtain ⟨a, vs, e1, h1, h2⟩ := bo.listOf x3.fh
        exact ⟨a, vs, e1, h1, h2.fix (c e)⟩
      · subst e
        obtain ⟨a, vs, e1, h1, h2⟩ := rv1.1.listOf
        have s3 : Same F1 F3 := e2.f.trans e3.f
        exact ⟨a, vs, e1, (s3.trans x3.fh).seq h1, h2.mono s3⟩
    obtain ⟨a, vs, rfl, h1, h2⟩ := fl
    exact .inl ⟨a, vs, rfl, h1, fun p hp => VP.newL (VP.on q4 x3) x3.fh hp (h2.cut lo hi)⟩
  | tup ds =>
    have q4 : VP K H0 F H (.ow .fr) (.tup (cutD ds lo hi)) Q := q3
    obtain ⟨a, vs, rfl, h1, h2⟩ := bo.tupOf
    refine .inr (.inl ⟨a, vs, rfl, Same.sqt x3.fh h1, fun w => ?_, fun _ p hp => VP.newTF (VP.on q4 x3) x3.fh hp (h2.cut lo hi)⟩)
    rw [h2.length] at w
    rw [cutD_whole w] at q4
    exact VP.oldF (VP.on q4 x3) x3.fh rfl (.tup h1 h2)
  | str z =>
    obtain ⟨c, q3⟩ := RP.ite (show RP (if _ then _ else _) _ _ from q3)
    obtain rfl := bo.strOf
    exact .inr (.inr ⟨z, rfl, c, VP.oldF (VP.on (show VP K H0 F H (.ow .fr) (.str (cutS z lo hi)) Q from q3) x3) x3.fh rfl (.str _)⟩)
  | _ => exact (show False from q3).elim
theorem de_sl {lo hi : Option Expr} {p2 : Pos} {tl th : TO} {gl gh : List D → R (Option Int)} (U : Uni K E k X) (h : DE K E X Γ a ta .fr ga) (hl : DO K E X Γ lo tl gl) (hh : DO K E X Γ hi th gh) : DE K E X Γ (.Subscript a (.Slice lo hi none p2) pos) (tSl (rSlD K) ta tl th) (.ow .fr) (gSl false ga gl gh) := by
  have e := U.K
  subst e
  exact ⟨pe_slice sl_any h.pe hl.po hh.po, se_slP h.se hl hh false (.inr rfl)⟩
theorem de_slP {lo hi : Option Expr} {p2 : Pos} {tl th : TO} {gl gh : List D → R (Option Int)} (U : Uni K E k X) (h : DE K E X Γ a ta m ga) (hl : DO K E X Γ lo tl gl) (hh : DO K E X Γ hi th gh) : DE K E X Γ (.Subscript a (.Slice lo hi none p2) pos) (tSl (rSlD K) ta tl th) (.ow .fr) (gSl true ga gl gh) := by
  have e := U.K
  subst e
  exact ⟨pe_slice sl_any h.pe hl.po hh.po, se_slP h.se hl hh true (.inl rfl)⟩

/-! ### built-ins by name -/
def SC (K : PySem.W.Frag) (r : List V → Hp → VK → Prop) (ms : List M) (m : M) (f : List D → R D) : Prop :=
  ∀ H0 F H vs ds Q, Same F H → Same H0 H → Rvs K H0 F H ms vs ds → RP (f ds) (fun d => VP K H0 F H m d Q) (fun _ => True) → r vs H Q
theorem se_cb {r : List V → Hp → VK → Prop} {f : List D → R D} (hs : SC K r ms m f) (h : SA K E Γ tr ms gr) : SE K E Γ (tCB r tr) m (gAll f gr) := fun F0 H0 ρ σ F H fps Q rel q => by
  refine h F0 H0 ρ σ F H fps _ rel ((RP.bind q).imp (fun ds hds vs F' H' x rv => ?_) fun _ z => z)
  exact hs H0 F' H' vs ds Q x.fh (rel.h0.trans x.h) rv (hds.imp (fun d hd => VP.on hd x) fun _ _ => trivial)
theorem DE.callB {x : Str} {id : String} {r : List V → Hp → VK → Prop} {f : List D → R D} (hc : CallR X (.builtin id) r) (hs : SC K r ms m f) (hn : X.mg x = none) (hv : bootBuiltins x = some (.builtin id)) (ha : DA K E X Γ (e :: es) tr ms gr) (hg : Gl X x)
    (hnn : x ≠ "__name__") (hdb : (x == ("__debug__" : Str)) = false)
    (he : starEach (e :: es) X.env = (false, eval e X.env) :: starEach es X.env) (hpl : (backTo pos (starEach es X.env)).any (·.1) = false) :
    DE K E X Γ (.Call (.Name x p) (e :: es) [] pos) (tCB r tr) m (gAll f gr) := ⟨pe_callB hc hg hn hv ha.pa hnn hdb he hpl, se_cb hs ha.sa⟩
theorem DE.callTy {x : Str} {T : String} {r : List V → Hp → VK → Prop} {f : List D → R D} (hc : CallR X (.type T) r) (hs : SC K r ms m f) (hn : X.mg x = none) (hv : bootBuiltins x = some (.type T)) (ha : DA K E X Γ (e :: es) tr ms gr) (hg : Gl X x)
    (hnn : x ≠ "__name__") (hdb : (x == ("__debug__" : Str)) = false)
    (he : starEach (e :: es) X.env = (false, eval e X.env) :: starEach es X.env) (hpl : (backTo pos (starEach es X.env)).any (·.1) = false) :
    DE K E X Γ (.Call (.Name x p) (e :: es) [] pos) (tCB r tr) m (gAll f gr) := ⟨pe_callTy hc hg hn hv ha.pa hnn hdb he hpl, se_cb hs ha.sa⟩
end
end DL
/-! DLj: len, list, tuple, isinstance, max, min, abs, sum, all, any, divmod, int, str, sorted; append, x[i] = e, insert. -/
namespace DL
open PySem L2
variable [Tbs]

def dLen : List D → R D
  | [.lst ds] => .ok (.int ds.length)
  | [.tup ds] => .ok (.int ds.length)
  | [.str z] => if z.length ≤ sizeLine then .ok (.int z.length) else .bad
  | _ => .bad
section
variable {K : PySem.W.Frag} {H0 F H : Hp}
omit [Tbs] in
theorem Rvs.one {m : M} {vs : List V} {ds : List D} (h : Rvs K H0 F H [m] vs ds) : ∃ v d, vs = [v] ∧ ds = [d] ∧ Rv K H0 F H m v d [] := by
  cases h with
  | cons h1 h2 => cases h2; exact ⟨_, _, rfl, rfl, h1⟩
omit [Tbs] in
theorem Rvs.two {m m' : M} {vs : List V} {ds : List D} (h : Rvs K H0 F H [m, m'] vs ds) : ∃ v d v' d', vs = [v, v'] ∧ ds = [d, d'] ∧ Rv K H0 F H m v d [] ∧ Rv K H0 F H m' v' d' [] := by
  cases h with
  | cons h1 h2 =>
    cases h2 with
    | cons h3 h4 => cases h4; exact ⟨_, _, _, _, rfl, rfl, h1, h3⟩
def rLen (K : PySem.W.Frag) : List V → Hp → VK → Prop := fun xs H Q => ∃ x n, xs = [x] ∧ LenV K x H n ∧ Q (.int n) H
theorem sc_len : SC K (rLen K) [.pk] .fr dLen := by
  intro H0 F H vs ds Q eF e0 rvs q
  obtain ⟨v, d, rfl, rfl, rv⟩ := rvs.one
  cases d with
  | lst ds =>
    obtain ⟨a, vs, rfl, h1, h2⟩ := rv.1.listOf eF
    exact ⟨_, ds.length, rfl, .inl ⟨vs, h1, h2.length.symm⟩, VP.old (show VP K H0 F H .fr (.int ds.length) Q from q) eF (.int _)⟩
  | tup ds =>
    obtain ⟨a, vs, rfl, h1, h2⟩ := rv.1.tupOf
    exact ⟨_, ds.length, rfl, .inr ⟨vs, Same.sqt eF h1, h2.length.symm⟩, VP.old (show VP K H0 F H .fr (.int ds.length) Q from q) eF (.int _)⟩
  | str z =>
    obtain ⟨c, q⟩ := RP.ite (show RP (if _ then _ else _) _ _ from q)
    obtain rfl := rv.1.strOf
    exact ⟨_, z.length, rfl, ⟨c, rfl⟩, VP.old q eF (.int _)⟩
  | _ => exact (show False from q).elim
/-- list(x), tuple(x); nl: no lists within -/
def dList (nl : Bool) : List D → R D
  | [.lst ds] => if nl = true → ds.all nlB = true then .ok (.lst ds) else .bad
  | [.tup ds] => .ok (.lst ds)
  | _ => .bad
def dTuple (nl : Bool) : List D → R D
  | [.lst ds] => if nl = true → ds.all nlB = true then .ok (.tup ds) else .bad
  | [.tup ds] => .ok (.tup ds)
  | _ => .bad
omit [Tbs] in
theorem Rv.frl {nl : Bool} {m : M} {v : V} {ds : List D} (hm : (nl = true ∧ m = .pk) ∨ m = .fr) (c : nl = true → ds.all nlB = true) (rv : Rv K H0 F H m v (.lst ds) []) (e : Same F H) : ∃ a vs, v = .ref a ∧ SqL K H a vs ∧ FzL K F vs ds := by
  rcases hm with ⟨e1, e2⟩ | e2
  · subst e2
    obtain ⟨a, vs, e3, h1, h2⟩ := (show Bo K H F v (.lst ds) from rv.1).listOf e
    exact ⟨a, vs, e3, h1, h2.fix (c e1)⟩
  · subst e2
    obtain ⟨a, vs, e3, h1, h2⟩ := (show Fz K F v (.lst ds) from rv.1).listOf
    exact ⟨a, vs, e3, e.seq h1, h2⟩
omit [Tbs] in
theorem Rv.frt {nl : Bool} {m : M} {v : V} {ds : List D} (hm : (nl = true ∧ m = .pk) ∨ m = .fr) (rv : Rv K H0 F H m v (.tup ds) []) : ∃ a vs, v = .ref a ∧ SqT K F a vs ∧ FzL K F vs ds := by
  rcases hm with ⟨e1, e2⟩ | e2
  · subst e2
    exact (show Bo K H F v (.tup ds) from rv.1).tupOf
  · subst e2
    exact (show Fz K F v (.tup ds) from rv.1).tupOf
def rListOf (K : PySem.W.Frag) : List V → Hp → VK → Prop := fun xs H Q => ∃ p ys, xs = [.ref p] ∧ (SqL K H p ys ∨ SqT K H p ys) ∧ ∀ l, H l = none → Q (.ref l) (upd H l (.lst ys))
def rTupOf (K : PySem.W.Frag) : List V → Hp → VK → Prop := fun xs H Q => ∃ p ys, xs = [.ref p] ∧ ((SqL K H p ys ∧ ∀ l, H l = none → Q (.ref l) (upd H l (.tup ys))) ∨ (SqT K H p ys ∧ Q (.ref p) H))
theorem sc_list {nl : Bool} {m : M} (hm : (nl = true ∧ m = .pk) ∨ m = .fr) : SC K (rListOf K) [m] (.ow .fr) (dList nl) := by
  intro H0 F H vs ds Q eF e0 rvs q
  obtain ⟨v, d, rfl, rfl, rv⟩ := rvs.one
  cases d with
  | lst ds =>
    obtain ⟨c, q⟩ := RP.ite' (show RP (if _ then _ else _) _ _ from q)
    obtain ⟨a, vs, rfl, h1, h2⟩ := rv.frl hm c eF
    exact ⟨a, vs, rfl, .inl h1, fun l hl => VP.newL q eF hl h2⟩
  | tup ds =>
    obtain ⟨a, vs, rfl, h1, h2⟩ := rv.frt hm
    exact ⟨a, vs, rfl, .inr (Same.sqt eF h1), fun l hl => VP.newL (show VP K H0 F H (.ow .fr) (.lst ds) Q from q) eF hl h2⟩
  | _ => exact (show False from q).elim
theorem sc_tuple {nl : Bool} {m : M} (hm : (nl = true ∧ m = .pk) ∨ m = .fr) : SC K (rTupOf K) [m] .fr (dTuple nl) := by
  intro H0 F H vs ds Q eF e0 rvs q
  obtain ⟨v, d, rfl, rfl, rv⟩ := rvs.one
  cases d with
  | lst ds =>
    obtain ⟨c, q⟩ := RP.ite' (show RP (if _ then _ else _) _ _ from q)
    obtain ⟨a, vs, rfl, h1, h2⟩ := rv.frl hm c eF
    exact ⟨a, vs, rfl, .inl ⟨h1, fun l hl => VP.newT q eF hl h2⟩⟩
  | tup ds =>
    obtain ⟨a, vs, rfl, h1, h2⟩ := rv.frt hm
    exact ⟨a, vs, rfl, .inr ⟨Same.sqt eF h1, VP.old (show VP K H0 F H .fr (.tup ds) Q from q) eF (.tup h1 h2)⟩⟩
  | _ => exact (show False from q).elim
/-- the name of a value's type -/
def tyName : D → Option String
  | .non => some "NoneType"
  | .bl _ => some "bool"
  | .int _ => some "int"
  | .str _ => some "str"
  | .tup _ => some "tuple"
  | .lst _ => some "list"
  | _ => none
omit [Tbs] in
theorem SqL.tyX {a : Addr} {vs : List V} (h : SqL K H a vs) : TyX K H (.ref a) (.type "list") := by
  rcases h with (h | ⟨o, h⟩) | ⟨o, its, n, h1, h2, _⟩
  · exact .base (.lst h)
  · exact .base (.frz h)
  · exact .kList h1 h2
omit [Tbs] in
theorem SqT.tyX {a : Addr} {vs : List V} (h : SqT K H a vs) : TyX K H (.ref a) (.type "tuple") := by
  rcases h with (h | ⟨o, h⟩) | ⟨o, its, n, h1, h2, _⟩
  · exact .base (.tup h)
  · exact .fTuple h
  · exact .kTuple h1 h2
omit [Tbs] in
theorem Bo.tyX {v : V} {d : D} {n : String} (e : Same F H) (h : Bo K H F v d) (hn : tyName d = some n) : TyX K H v (.type n) := by
  cases d with
  | non => obtain rfl := h.nonOf; cases hn; exact .base .non
  | bl b => obtain rfl := h.blOf; cases hn; exact .base (.bl b)
  | int i => obtain rfl := h.intOf; cases hn; exact .base (.int i)
  | str x => obtain rfl := h.strOf; cases hn; exact .base (.str x)
  | tup ds => obtain ⟨a, vs, rfl, h1, _⟩ := h.tupOf; cases hn; exact SqT.tyX (Same.sqt e h1)
  | lst ds => obtain ⟨a, vs, rfl, h1, _⟩ := h.listOf e; cases hn; exact SqL.tyX h1
  | _ => cases hn
def dIsi (T : String) (d : D) : R D := match tyName d with
  | some n => match kitB n T with
    | some b => .ok (.bl b)
    | none => .bad
  | none => .bad
theorem se_isi {E : XK} {Γ : List M} {t : TE} {m : M} {g : List D → R D} {T : String} (h : SE K E Γ t m g) : SE K E Γ (tCB (rIsi K) (tCons t (tCons (tC (.ty T)) tNil))) .fr (g1 (dIsi T) g) := fun F0 H0 ρ σ F H fps Q rel q => by
  refine h.pk F0 H0 ρ σ F H fps _ rel ((RP.bind q).imp (fun d hd v F' H' fp x rv _ => ?_) fun _ z => z)
  show rIsi K [v, .ty T] H' Q
  unfold dIsi at hd
  cases hn : tyName d with
  | none => rw [hn] at hd; exact hd.elim
  | some n =>
    rw [hn] at hd
    cases hk : kitB n T with
    | none => simp only [hk] at hd; exact hd.elim
    | some b =>
      simp only [hk] at hd
      exact ⟨v, .ty T, .type n, .type T, b, rfl, .ty T, rv.1.tyX x.fh hn, kit_ty hk, VP.old (VP.on (show VP K H0 F H .fr (.bl b) Q from hd) x) x.fh (.bl _)⟩
/-- ints, truths of a list -/
def dInts : List D → Option (List Int)
  | [] => some []
  | .int i :: ds => (dInts ds).map (i :: ·)
  | _ => none
def dBls : List D → Option (List Bool)
  | [] => some []
  | .bl i :: ds => (dBls ds).map (i :: ·)
  | _ => none
omit [Tbs] in
theorem dInts_eq : ∀ {ds : List D} {ns : List Int}, dInts ds = some ns → ds = ns.map D.int
  | [], ns, h => by cases h; rfl
  | .int i :: ds, ns, h => by
    obtain ⟨ms, h1, rfl⟩ := Option.map_eq_some_iff.mp (show (dInts ds).map (i :: ·) = some ns from h)
    rw [dInts_eq h1]; rfl
  | .non :: _, _, h => nomatch h
  | .bl _ :: _, _, h => nomatch h
  | .str _ :: _, _, h => nomatch h
  | .tup _ :: _, _, h => nomatch h
  | .lst _ :: _, _, h => nomatch h
  | .ob _ _ _ :: _, _, h => nomatch h
  | .cl _ :: _, _, h => nomatch h
  | .ex _ _ :: _, _, h => nomatch h
omit [Tbs] in
theorem dBls_eq : ∀ {ds : List D} {ns : List Bool}, dBls ds = some ns → ds = ns.map D.bl
  | [], ns, h => by cases h; rfl
  | .bl i :: ds, ns, h => by
    obtain ⟨ms, h1, rfl⟩ := Option.map_eq_some_iff.mp (show (dBls ds).map (i :: ·) = some ns from h)
    rw [dBls_eq h1]; rfl
  | .non :: _, _, h => nomatch h
  | .int _ :: _, _, h => nomatch h
  | .str _ :: _, _, h => nomatch h
  | .tup _ :: _, _, h => nomatch h
  | .lst _ :: _, _, h => nomatch h
  | .ob _ _ _ :: _, _, h => nomatch h
  | .cl _ :: _, _, h => nomatch h
  | .ex _ _ :: _, _, h => nomatch h
omit [Tbs] in
@[simp] theorem dInts_map : ∀ ns : List Int, dInts (ns.map D.int) = some ns
  | [] => rfl
  | n :: ns => by rw [List.map_cons, dInts, dInts_map ns]; rfl
omit [Tbs] in
@[simp] theorem dBls_map : ∀ ns : List Bool, dBls (ns.map D.bl) = some ns
  | [] => rfl
  | n :: ns => by rw [List.map_cons, dBls, dBls_map ns]; rfl
omit [Tbs] in
theorem BoL.blsOf {F H : Hp} : ∀ {ns : List Bool} {vs : List V}, BoL K H F vs (ns.map D.bl) → vs = ns.map V.bl
  | [], _, .nil => rfl
  | n :: ns, _, .cons h hs => by rw [h.blOf, BoL.blsOf hs]; rfl
def dSum : List D → R D
  | [.lst ds] => oR ((dInts ds).map fun ns => .int ns.sum)
  | _ => .bad
def dAll : List D → R D
  | [.lst ds] => oR ((dBls ds).map fun bs => .bl (bs.all id))
  | _ => .bad
def dAny : List D → R D
  | [.lst ds] => oR ((dBls ds).map fun bs => .bl (bs.any id))
  | _ => .bad
theorem sc_sum : SC K (rSum K) [.pk] .fr dSum := by
  intro H0 F H vs ds Q eF e0 rvs q
  obtain ⟨v, d, rfl, rfl, rv⟩ := rvs.one
  cases d with
  | lst ds =>
    obtain ⟨d, hd, hq⟩ := oR_ok (show RP (oR _) _ _ from q)
    obtain ⟨ns, h1, rfl⟩ := Option.map_eq_some_iff.mp hd
    obtain rfl := dInts_eq h1
    obtain ⟨a, vs, rfl, h1, h2⟩ := rv.1.listOf eF
    obtain rfl := h2.intsOf
    exact ⟨a, ns, rfl, h1, VP.old hq eF (.int _)⟩
  | _ => exact (show False from q).elim
theorem sc_all : SC K (rAll K) [.pk] .fr dAll := by
  intro H0 F H vs ds Q eF e0 rvs q
  obtain ⟨v, d, rfl, rfl, rv⟩ := rvs.one
  cases d with
  | lst ds =>
    obtain ⟨d, hd, hq⟩ := oR_ok (show RP (oR _) _ _ from q)
    obtain ⟨ns, h1, rfl⟩ := Option.map_eq_some_iff.mp hd
    obtain rfl := dBls_eq h1
    obtain ⟨a, vs, rfl, h1, h2⟩ := rv.1.listOf eF
    obtain rfl := h2.blsOf
    exact ⟨a, ns, rfl, h1, VP.old hq eF (.bl _)⟩
  | _ => exact (show False from q).elim
theorem sc_any : SC K (rAny K) [.pk] .fr dAny := by
  intro H0 F H vs ds Q eF e0 rvs q
  obtain ⟨v, d, rfl, rfl, rv⟩ := rvs.one
  cases d with
  | lst ds =>
    obtain ⟨d, hd, hq⟩ := oR_ok (show RP (oR _) _ _ from q)
    obtain ⟨ns, h1, rfl⟩ := Option.map_eq_some_iff.mp hd
    obtain rfl := dBls_eq h1
    obtain ⟨a, vs, rfl, h1, h2⟩ := rv.1.listOf eF
    obtain rfl := h2.blsOf
    exact ⟨a, ns, rfl, h1, VP.old hq eF (.bl _)⟩
  | _ => exact (show False from q).elim
/-- greatest, least -/
def maxL : List Int → Option Int
  | [] => none
  | n :: ns => some (ns.foldl max n)
def minL : List Int → Option Int
  | [] => none
  | n :: ns => some (ns.foldl min n)
omit [Tbs] in
theorem foldl_max_spec : ∀ (ns : List Int) (n : Int), (ns.foldl max n = n ∨ ns.foldl max n ∈ ns) ∧ n ≤ ns.foldl max n ∧ ∀ y ∈ ns, y ≤ ns.foldl max n
  | [], n => ⟨.inl rfl, Int.le_refl _, fun _ h => nomatch h⟩
  | k :: ns, n => by
    obtain ⟨h1, h2, h3⟩ := foldl_max_spec ns (max n k)
    rw [List.foldl_cons]
    refine ⟨?_, by omega, fun y hy => ?_⟩
    · rcases h1 with e | e
      · rw [e]
        by_cases z : n ≤ k
        · exact .inr (by rw [Int.max_eq_right z]; exact List.mem_cons_self)
        · exact .inl (by rw [Int.max_eq_left (by omega)])
      · exact .inr (List.mem_cons_of_mem _ e)
    · rcases List.mem_cons.mp hy with e | e
      · subst e; omega
      · exact h3 y e
omit [Tbs] in
theorem foldl_min_spec : ∀ (ns : List Int) (n : Int), (ns.foldl min n = n ∨ ns.foldl min n ∈ ns) ∧ ns.foldl min n ≤ n ∧ ∀ y ∈ ns, ns.foldl min n ≤ y
  | [], n => ⟨.inl rfl, Int.le_refl _, fun _ h => nomatch h⟩
  | k :: ns, n => by
    obtain ⟨h1, h2, h3⟩ := foldl_min_spec ns (min n k)
    rw [List.foldl_cons]
    refine ⟨?_, by omega, fun y hy => ?_⟩
    · rcases h1 with e | e
      · rw [e]
        by_cases z : n ≤ k
        · exact .inl (by rw [Int.min_eq_left z])
        · exact .inr (by rw [Int.min_eq_right (by omega)]; exact List.mem_cons_self)
      · exact .inr (List.mem_cons_of_mem _ e)
    · rcases List.mem_cons.mp hy with e | e
      · subst e; omega
      · exact h3 y e
omit [Tbs] in
theorem maxL_uniq {ns : List Int} {m k : Int} (h : maxL ns = some k) (h1 : m ∈ ns) (h2 : ∀ y, y ∈ ns → y ≤ m) : m = k := by
  cases ns with
  | nil => cases h
  | cons n ns =>
    obtain rfl := Option.some.inj h
    obtain ⟨s1, s2, s3⟩ := foldl_max_spec ns n
    have a : m ≤ ns.foldl max n := by
      rcases List.mem_cons.mp h1 with e | e
      · subst e; exact s2
      · exact s3 m e
    have b : ns.foldl max n ≤ m := by
      rcases s1 with e | e
      · rw [e]; exact h2 n List.mem_cons_self
      · exact h2 _ (List.mem_cons_of_mem _ e)
    omega
omit [Tbs] in
theorem minL_uniq {ns : List Int} {m k : Int} (h : minL ns = some k) (h1 : m ∈ ns) (h2 : ∀ y, y ∈ ns → m ≤ y) : m = k := by
  cases ns with
  | nil => cases h
  | cons n ns =>
    obtain rfl := Option.some.inj h
    obtain ⟨s1, s2, s3⟩ := foldl_min_spec ns n
    have a : ns.foldl min n ≤ m := by
      rcases List.mem_cons.mp h1 with e | e
      · subst e; exact s2
      · exact s3 m e
    have b : m ≤ ns.foldl min n := by
      rcases s1 with e | e
      · rw [e]; exact h2 n List.mem_cons_self
      · exact h2 _ (List.mem_cons_of_mem _ e)
    omega
def dMax : List D → R D
  | [.lst ds] => oR ((dInts ds).bind fun ns => (maxL ns).map .int)
  | [.int i, .int j] => .ok (.int (max i j))
  | _ => .bad
def dMin : List D → R D
  | [.lst ds] => oR ((dInts ds).bind fun ns => (minL ns).map .int)
  | [.int i, .int j] => .ok (.int (min i j))
  | _ => .bad
theorem sc_max : SC K (rMax K) [.pk] .fr dMax := by
  intro H0 F H vs ds Q eF e0 rvs q
  obtain ⟨v, d, rfl, rfl, rv⟩ := rvs.one
  cases d with
  | lst ds =>
    obtain ⟨d, hd, hq⟩ := oR_ok (show RP (oR _) _ _ from q)
    obtain ⟨ns, h1, h3⟩ := Option.bind_eq_some_iff.mp hd
    obtain ⟨k, h4, rfl⟩ := Option.map_eq_some_iff.mp h3
    obtain rfl := dInts_eq h1
    obtain ⟨a, vs, rfl, h1, h2⟩ := rv.1.listOf eF
    obtain rfl := h2.intsOf
    refine ⟨a, ns, rfl, h1, ?_, fun m hm hle => ?_⟩
    · cases ns with
      | nil => cases h4
      | cons _ _ => exact Nat.succ_pos _
    · rw [maxL_uniq h4 hm hle]
      exact VP.old hq eF (.int _)
  | _ => exact (show False from q).elim
theorem sc_min : SC K (rMin K) [.pk] .fr dMin := by
  intro H0 F H vs ds Q eF e0 rvs q
  obtain ⟨v, d, rfl, rfl, rv⟩ := rvs.one
  cases d with
  | lst ds =>
    obtain ⟨d, hd, hq⟩ := oR_ok (show RP (oR _) _ _ from q)
    obtain ⟨ns, h1, h3⟩ := Option.bind_eq_some_iff.mp hd
    obtain ⟨k, h4, rfl⟩ := Option.map_eq_some_iff.mp h3
    obtain rfl := dInts_eq h1
    obtain ⟨a, vs, rfl, h1, h2⟩ := rv.1.listOf eF
    obtain rfl := h2.intsOf
    refine ⟨a, ns, rfl, h1, ?_, fun m hm hle => ?_⟩
    · cases ns with
      | nil => cases h4
      | cons _ _ => exact Nat.succ_pos _
    · rw [minL_uniq h4 hm hle]
      exact VP.old hq eF (.int _)
  | _ => exact (show False from q).elim
def rMax2 : List V → Hp → VK → Prop := fun xs H Q => ∃ i j, xs = [.int i, .int j] ∧ Q (.int (if j > i then j else i)) H
def rMin2 : List V → Hp → VK → Prop := fun xs H Q => ∃ i j, xs = [.int i, .int j] ∧ Q (.int (if j < i then j else i)) H
theorem sc_max2 : SC K rMax2 [.pk, .pk] .fr dMax := by
  intro H0 F H vs ds Q eF e0 rvs q
  obtain ⟨v, d, v', d', rfl, rfl, rv, rv'⟩ := rvs.two
  cases d with
  | int i =>
    cases d' with
    | int j =>
      obtain rfl := rv.1.intOf
      obtain rfl := rv'.1.intOf
      refine ⟨i, j, rfl, ?_⟩
      have e : (if j > i then j else i) = max i j := by split <;> omega
      rw [e]
      exact VP.old (show VP K H0 F H .fr (.int (max i j)) Q from q) eF (.int _)
    | _ => exact (show False from q).elim
  | _ => exact (show False from q).elim
theorem sc_min2 : SC K rMin2 [.pk, .pk] .fr dMin := by
  intro H0 F H vs ds Q eF e0 rvs q
  obtain ⟨v, d, v', d', rfl, rfl, rv, rv'⟩ := rvs.two
  cases d with
  | int i =>
    cases d' with
    | int j =>
      obtain rfl := rv.1.intOf
      obtain rfl := rv'.1.intOf
      refine ⟨i, j, rfl, ?_⟩
      have e : (if j < i then j else i) = min i j := by split <;> omega
      rw [e]
      exact VP.old (show VP K H0 F H .fr (.int (min i j)) Q from q) eF (.int _)
    | _ => exact (show False from q).elim
  | _ => exact (show False from q).elim
def dAbs : List D → R D
  | [.int i] => .ok (.int (if i < 0 then -i else i))
  | _ => .bad
def rAbs : List V → Hp → VK → Prop := fun xs H Q => ∃ i, xs = [.int i] ∧ Q (.int (if i < 0 then -i else i)) H
theorem sc_abs : SC K rAbs [.pk] .fr dAbs := by
  intro H0 F H vs ds Q eF e0 rvs q
  obtain ⟨v, d, rfl, rfl, rv⟩ := rvs.one
  cases d with
  | int i =>
    obtain rfl := rv.1.intOf
    exact ⟨i, rfl, VP.old (show VP K H0 F H .fr _ Q from q) eF (.int _)⟩
  | _ => exact (show False from q).elim
instance (i j : Int) : Decidable (CDivP i j) := by unfold CDivP; infer_instance
def dDivmod : List D → R D
  | [.int i, .int j] => if CDivP i j then .ok (.tup [.int (i / j), .int (i % j)]) else .bad
  | _ => .bad
def rDivmod : List V → Hp → VK → Prop := fun xs H Q => ∃ i j, xs = [.int i, .int j] ∧ CDivP i j ∧ ∀ p, H p = none → Q (.ref p) (upd H p (.tup [.int (i / j), .int (i % j)]))
theorem sc_divmod : SC K rDivmod [.pk, .pk] .fr dDivmod := by
  intro H0 F H vs ds Q eF e0 rvs q
  obtain ⟨v, d, v', d', rfl, rfl, rv, rv'⟩ := rvs.two
  cases d with
  | int i =>
    cases d' with
    | int j =>
      obtain ⟨c, q⟩ := RP.ite' (show RP (if _ then _ else _) _ _ from q)
      obtain rfl := rv.1.intOf
      obtain rfl := rv'.1.intOf
      exact ⟨i, j, rfl, c, fun p hp => VP.newT q eF hp (.cons (.int _) (.cons (.int _) .nil))⟩
    | _ => exact (show False from q).elim
  | _ => exact (show False from q).elim
def dToInt : List D → R D
  | [.int i] => .ok (.int i)
  | [.bl b] => .ok (.int (if b = true then 1 else 0))
  | _ => .bad
def rToInt : List V → Hp → VK → Prop := fun xs H Q => (∃ i, xs = [.int i] ∧ Q (.int i) H) ∨ ∃ k, xs = [.bl k] ∧ Q (.int (if k then 1 else 0)) H
theorem sc_int : SC K rToInt [.pk] .fr dToInt := by
  intro H0 F H vs ds Q eF e0 rvs q
  obtain ⟨v, d, rfl, rfl, rv⟩ := rvs.one
  cases d with
  | int i =>
    obtain rfl := rv.1.intOf
    exact .inl ⟨i, rfl, VP.old (show VP K H0 F H .fr _ Q from q) eF (.int _)⟩
  | bl b =>
    obtain rfl := rv.1.blOf
    exact .inr ⟨b, rfl, VP.old (show VP K H0 F H .fr _ Q from q) eF (.int _)⟩
  | _ => exact (show False from q).elim
/-- sorted of ints -/
def insI (n : Int) : List Int → List Int
  | [] => [n]
  | k :: ns => if n ≤ k then n :: k :: ns else k :: insI n ns
def sortI : List Int → List Int
  | [] => []
  | n :: ns => insI n (sortI ns)
omit [Tbs] in
theorem insI_perm (n : Int) : ∀ ns : List Int, (insI n ns).Perm (n :: ns)
  | [] => .refl _
  | k :: ns => by
    unfold insI
    split
    · exact .refl _
    · exact ((insI_perm n ns).cons k).trans (.swap _ _ _)
omit [Tbs] in
theorem insI_sorted (n : Int) : ∀ ns : List Int, ns.Pairwise (· ≤ ·) → (insI n ns).Pairwise (· ≤ ·)
  | [], _ => by simp [insI]
  | k :: ns, h => by
    rw [List.pairwise_cons] at h
    unfold insI
    split
    · rename_i z
      refine List.pairwise_cons.mpr ⟨fun y hy => ?_, List.pairwise_cons.mpr h⟩
      rcases List.mem_cons.mp hy with e | e
      · subst e; exact z
      · have := h.1 y e; omega
    · rename_i z
      refine List.pairwise_cons.mpr ⟨fun y hy => ?_, insI_sorted n ns h.2⟩
      rcases List.mem_cons.mp ((insI_perm n ns).mem_iff.mp hy) with e | e
      · subst e; omega
      · exact h.1 y e
omit [Tbs] in
theorem sortI_perm : ∀ ns : List Int, (sortI ns).Perm ns
  | [] => .refl _
  | n :: ns => (insI_perm n _).trans ((sortI_perm ns).cons n)
omit [Tbs] in
theorem sortI_sorted : ∀ ns : List Int, (sortI ns).Pairwise (· ≤ ·)
  | [] => List.Pairwise.nil
  | n :: ns => insI_sorted n _ (sortI_sorted ns)
omit [Tbs] in
theorem sortI_uniq {ns ms : List Int} (h1 : ms.Perm ns) (h2 : ms.Pairwise (· ≤ ·)) : ms = sortI ns :=
  List.Perm.eq_of_pairwise (le := fun (a b : Int) => a ≤ b) (fun a b _ _ h h' => Int.le_antisymm h h') h2 (sortI_sorted ns) (h1.trans (sortI_perm ns).symm)
def dSorted : List D → R D
  | [.lst ds] => oR ((dInts ds).map fun ns => .lst ((sortI ns).map .int))
  | _ => .bad
theorem sc_sorted : SC K (rSortedI K) [.pk] (.ow .fr) dSorted := by
  intro H0 F H vs ds Q eF e0 rvs q
  obtain ⟨v, d, rfl, rfl, rv⟩ := rvs.one
  cases d with
  | lst ds =>
    obtain ⟨d, hd, hq⟩ := oR_ok (show RP (oR _) _ _ from q)
    obtain ⟨ns, h1, rfl⟩ := Option.map_eq_some_iff.mp hd
    obtain rfl := dInts_eq h1
    obtain ⟨a, vs, rfl, h1, h2⟩ := rv.1.listOf eF
    obtain rfl := h2.intsOf
    refine ⟨a, ns, rfl, h1, fun ns' p hp hs hn => ?_⟩
    rw [sortI_uniq hp hs]
    exact VP.newL hq eF hn (FzL.ints _)
  | _ => exact (show False from q).elim
end
end DL
/-! DLk: built-ins as rules; changes of own lists. -/
namespace DL
open PySem L2
variable [Tbs]

section
variable {K : PySem.W.Frag} {E : XK} {X : Cx} {Γ : List M} {a b : Expr} {ta tb : TE} {m ma mb : M} {ga gb : List D → R D} {p p2 pos : Pos} {k : Nat}
theorem de_len (U : Uni K E k X) (h : DE K E X Γ a ta m ga) (hg : Gl X "len" := by rfl) (he : starEach [a] X.env = (false, eval a X.env) :: starEach [] X.env := by rfl) : DE K E X Γ (.Call (.Name "len" p) [a] [] pos) (tCB (rLen K) (tCons ta tNil)) .fr (gAll dLen (gsC ga gsN)) := by
  have e0 := U.K
  subst e0
  exact DE.callB call_len sc_len U.bn.len PySem.boot_len (da_p h da_nil he) hg (by decide) (by decide) he rfl
theorem de_list (U : Uni K E k X) (h : DE K E X Γ a ta .fr ga) (hg : Gl X "list" := by rfl) (he : starEach [a] X.env = (false, eval a X.env) :: starEach [] X.env := by rfl) : DE K E X Γ (.Call (.Name "list" p) [a] [] pos) (tCB (rListOf K) (tCons ta tNil)) (.ow .fr) (gAll (dList false) (gsC ga gsN)) := by
  have e0 := U.K
  subst e0
  exact DE.callTy call_list_of (sc_list (.inr rfl)) U.bn.list (by decide +kernel) (da_f h da_nil he) hg (by decide) (by decide) he rfl
theorem de_listP (U : Uni K E k X) (h : DE K E X Γ a ta m ga) (hg : Gl X "list" := by rfl) (he : starEach [a] X.env = (false, eval a X.env) :: starEach [] X.env := by rfl) : DE K E X Γ (.Call (.Name "list" p) [a] [] pos) (tCB (rListOf K) (tCons ta tNil)) (.ow .fr) (gAll (dList true) (gsC ga gsN)) := by
  have e0 := U.K
  subst e0
  exact DE.callTy call_list_of (sc_list (.inl ⟨rfl, rfl⟩)) U.bn.list (by decide +kernel) (da_p h da_nil he) hg (by decide) (by decide) he rfl
theorem de_tuple (U : Uni K E k X) (h : DE K E X Γ a ta .fr ga) (hg : Gl X "tuple" := by rfl) (he : starEach [a] X.env = (false, eval a X.env) :: starEach [] X.env := by rfl) : DE K E X Γ (.Call (.Name "tuple" p) [a] [] pos) (tCB (rTupOf K) (tCons ta tNil)) .fr (gAll (dTuple false) (gsC ga gsN)) := by
  have e0 := U.K
  subst e0
  exact DE.callTy call_tuple_of (sc_tuple (.inr rfl)) U.bn.tuple (by decide +kernel) (da_f h da_nil he) hg (by decide) (by decide) he rfl
theorem de_tupleP (U : Uni K E k X) (h : DE K E X Γ a ta m ga) (hg : Gl X "tuple" := by rfl) (he : starEach [a] X.env = (false, eval a X.env) :: starEach [] X.env := by rfl) : DE K E X Γ (.Call (.Name "tuple" p) [a] [] pos) (tCB (rTupOf K) (tCons ta tNil)) .fr (gAll (dTuple true) (gsC ga gsN)) := by
  have e0 := U.K
  subst e0
  exact DE.callTy call_tuple_of (sc_tuple (.inl ⟨rfl, rfl⟩)) U.bn.tuple (by decide +kernel) (da_p h da_nil he) hg (by decide) (by decide) he rfl
theorem de_sum (U : Uni K E k X) (h : DE K E X Γ a ta m ga) (hg : Gl X "sum" := by rfl) (he : starEach [a] X.env = (false, eval a X.env) :: starEach [] X.env := by rfl) : DE K E X Γ (.Call (.Name "sum" p) [a] [] pos) (tCB (rSum K) (tCons ta tNil)) .fr (gAll dSum (gsC ga gsN)) := by
  have e0 := U.K
  subst e0
  exact DE.callB (cr_sum U.calm) sc_sum U.bn.sum (by decide +kernel) (da_p h da_nil he) hg (by decide) (by decide) he rfl
theorem de_all (U : Uni K E k X) (h : DE K E X Γ a ta m ga) (hg : Gl X "all" := by rfl) (he : starEach [a] X.env = (false, eval a X.env) :: starEach [] X.env := by rfl) : DE K E X Γ (.Call (.Name "all" p) [a] [] pos) (tCB (rAll K) (tCons ta tNil)) .fr (gAll dAll (gsC ga gsN)) := by
  have e0 := U.K
  subst e0
  exact DE.callB (cr_all U.calm) sc_all U.bn.all (by decide +kernel) (da_p h da_nil he) hg (by decide) (by decide) he rfl
theorem de_any (U : Uni K E k X) (h : DE K E X Γ a ta m ga) (hg : Gl X "any" := by rfl) (he : starEach [a] X.env = (false, eval a X.env) :: starEach [] X.env := by rfl) : DE K E X Γ (.Call (.Name "any" p) [a] [] pos) (tCB (rAny K) (tCons ta tNil)) .fr (gAll dAny (gsC ga gsN)) := by
  have e0 := U.K
  subst e0
  exact DE.callB (cr_any U.calm) sc_any U.bn.any (by decide +kernel) (da_p h da_nil he) hg (by decide) (by decide) he rfl
theorem de_max1 (U : Uni K E k X) (h : DE K E X Γ a ta m ga) (hg : Gl X "max" := by rfl) (he : starEach [a] X.env = (false, eval a X.env) :: starEach [] X.env := by rfl) : DE K E X Γ (.Call (.Name "max" p) [a] [] pos) (tCB (rMax K) (tCons ta tNil)) .fr (gAll dMax (gsC ga gsN)) := by
  have e0 := U.K
  subst e0
  exact DE.callB (cr_max U.calm) sc_max U.bn.max (by decide +kernel) (da_p h da_nil he) hg (by decide) (by decide) he rfl
theorem de_min1 (U : Uni K E k X) (h : DE K E X Γ a ta m ga) (hg : Gl X "min" := by rfl) (he : starEach [a] X.env = (false, eval a X.env) :: starEach [] X.env := by rfl) : DE K E X Γ (.Call (.Name "min" p) [a] [] pos) (tCB (rMin K) (tCons ta tNil)) .fr (gAll dMin (gsC ga gsN)) := by
  have e0 := U.K
  subst e0
  exact DE.callB (cr_min U.calm) sc_min U.bn.min (by decide +kernel) (da_p h da_nil he) hg (by decide) (by decide) he rfl
theorem de_abs (U : Uni K E k X) (h : DE K E X Γ a ta m ga) (hg : Gl X "abs" := by rfl) (he : starEach [a] X.env = (false, eval a X.env) :: starEach [] X.env := by rfl) : DE K E X Γ (.Call (.Name "abs" p) [a] [] pos) (tCB rAbs (tCons ta tNil)) .fr (gAll dAbs (gsC ga gsN)) :=
  DE.callB call_abs sc_abs U.bn.abs (by decide +kernel) (da_p h da_nil he) hg (by decide) (by decide) he rfl
theorem de_toInt (U : Uni K E k X) (h : DE K E X Γ a ta m ga) (hg : Gl X "int" := by rfl) (he : starEach [a] X.env = (false, eval a X.env) :: starEach [] X.env := by rfl) : DE K E X Γ (.Call (.Name "int" p) [a] [] pos) (tCB rToInt (tCons ta tNil)) .fr (gAll dToInt (gsC ga gsN)) :=
  DE.callTy call_int1 sc_int U.bn.int (by decide +kernel) (da_p h da_nil he) hg (by decide) (by decide) he rfl
theorem de_sorted (U : Uni K E k X) (h : DE K E X Γ a ta m ga) (hg : Gl X "sorted" := by rfl) (he : starEach [a] X.env = (false, eval a X.env) :: starEach [] X.env := by rfl) : DE K E X Γ (.Call (.Name "sorted" p) [a] [] pos) (tCB (rSortedI K) (tCons ta tNil)) (.ow .fr) (gAll dSorted (gsC ga gsN)) := by
  have e0 := U.K
  subst e0
  exact DE.callB cr_sortedI sc_sorted U.bn.sorted (by decide +kernel) (da_p h da_nil he) hg (by decide) (by decide) he rfl
theorem de_max2 (U : Uni K E k X) (h : DE K E X Γ a ta ma ga) (h2 : DE K E X Γ b tb mb gb) (hg : Gl X "max" := by rfl) (he : starEach [a, b] X.env = (false, eval a X.env) :: starEach [b] X.env := by rfl) (he2 : starEach [b] X.env = (false, eval b X.env) :: starEach [] X.env := by rfl) (hpl : (backTo pos (starEach [b] X.env)).any (·.1) = false := by rfl) :
    DE K E X Γ (.Call (.Name "max" p) [a, b] [] pos) (tCB rMax2 (tCons ta (tCons tb tNil))) .fr (gAll dMax (gsC ga (gsC gb gsN))) :=
  DE.callB (call_max2 U.calm) sc_max2 U.bn.max (by decide +kernel) (da_p h (da_p h2 da_nil he2) he) hg (by decide) (by decide) he hpl
theorem de_min2 (U : Uni K E k X) (h : DE K E X Γ a ta ma ga) (h2 : DE K E X Γ b tb mb gb) (hg : Gl X "min" := by rfl) (he : starEach [a, b] X.env = (false, eval a X.env) :: starEach [b] X.env := by rfl) (he2 : starEach [b] X.env = (false, eval b X.env) :: starEach [] X.env := by rfl) (hpl : (backTo pos (starEach [b] X.env)).any (·.1) = false := by rfl) :
    DE K E X Γ (.Call (.Name "min" p) [a, b] [] pos) (tCB rMin2 (tCons ta (tCons tb tNil))) .fr (gAll dMin (gsC ga (gsC gb gsN))) :=
  DE.callB (call_min2 U.calm) sc_min2 U.bn.min (by decide +kernel) (da_p h (da_p h2 da_nil he2) he) hg (by decide) (by decide) he hpl
theorem de_divmod (U : Uni K E k X) (h : DE K E X Γ a ta ma ga) (h2 : DE K E X Γ b tb mb gb) (hg : Gl X "divmod" := by rfl) (he : starEach [a, b] X.env = (false, eval a X.env) :: starEach [b] X.env := by rfl) (he2 : starEach [b] X.env = (false, eval b X.env) :: starEach [] X.env := by rfl) (hpl : (backTo pos (starEach [b] X.env)).any (·.1) = false := by rfl) :
    DE K E X Γ (.Call (.Name "divmod" p) [a, b] [] pos) (tCB rDivmod (tCons ta (tCons tb tNil))) .fr (gAll dDivmod (gsC ga (gsC gb gsN))) :=
  DE.callB call_divmodW sc_divmod U.bn.divmod (by decide +kernel) (da_p h (da_p h2 da_nil he2) he) hg (by decide) (by decide) he hpl
/-- isinstance(x, T), T a built-in type by its name -/
theorem de_isi (T : String) {x : Str} (U : Uni K E k X) (h : DE K E X Γ a ta m ga) (hm : X.mg x = none) (hv : bootBuiltins x = some (.type T)) (hg : Gl X "isinstance" := by rfl) (hg2 : Gl X x := by rfl) (hn : x ≠ "__name__" := by decide) (hd : (x == ("__debug__" : Str)) = false := by decide)
    (he : starEach [a, (.Name x p2 : Expr)] X.env = (false, eval a X.env) :: starEach [(.Name x p2 : Expr)] X.env := by rfl) (he2 : starEach [(.Name x p2 : Expr)] X.env = (false, eval (.Name x p2) X.env) :: starEach [] X.env := by rfl) (hpl : (backTo pos (starEach [(.Name x p2 : Expr)] X.env)).any (·.1) = false := by rfl) :
    DE K E X Γ (.Call (.Name "isinstance" p) [a, .Name x p2] [] pos) (tCB (rIsi K) (tCons ta (tCons (tC (.ty T)) tNil))) .fr (g1 (dIsi T) ga) := by
  have e0 := U.K
  subst e0
  exact ⟨pe_callB call_isi hg U.bn.isinstance (by decide +kernel) (pa_cons h.pe (pa_cons (pe_bltn (v := .ty T) hg2 hm hv rfl hn hd) pa_nil he2) he) (by decide) (by decide) he hpl, se_isi h.se⟩
end

/-! ### own lists, changed -/
section
variable {K : PySem.W.Frag} {F0 H0 F H : Hp} {Γ : List M} {ρ : List D} {σ : St} {fps : Nat → List Addr}
theorem Rel.mut {i : Nat} {m : M} {v : V} {d : D} {fp : List Addr} {a : Addr} {o : HO} (r : Rel K F0 H0 Γ ρ σ F H fps) (hi : Γ[i]? = some m) (hv : σ[i]? = some (some v)) (st : m.st = true) (ha : a ∈ fps i)
    (hr : Rv K H0 F (upd H a o) m v d fp) (nd : fp.Nodup) (un : ∀ b ∈ fp, F b = none ∧ H0 b = none) (dj : ∀ j b, j ≠ i → b ∈ fps j → b ∉ fp) :
    Rel K F0 H0 Γ (ρ.set i d) σ F (upd H a o) (fun j => if j = i then fp else fps j) := by
  have hF : F a = none := (r.ow i a ha).1
  have hH : H0 a = none := (r.ow i a ha).2
  refine ⟨upd_keeps r.fh hF, r.f0, upd_keeps r.h0 hH, (r.thereL ha).elim fun _ z => r.tb.upd z, r.new, r.lg, by rw [List.length_set]; exact r.lr, fun j => ?_, fun j => ?_, fun j l b hj hl => ?_, fun j b hb => ?_⟩
  · by_cases e : j = i
    · subst e
      rw [if_pos rfl]
      refine .inr ⟨v, by rw [List.getD_eq_getElem?_getD, hv]; rfl, ?_, ?_⟩
      · rw [List.getD_eq_getElem?_getD, hi]; exact st
      · have hlt : j < ρ.length := by rw [r.lr]; exact (List.getElem?_eq_some_iff.mp hv).1
        rw [List.getD_eq_getElem?_getD, hi, List.getD_eq_getElem?_getD, List.getElem?_set_self hlt]
        exact hr
    · rw [if_neg e]
      have e1 : (ρ.set i d).getD j .non = ρ.getD j .non := by rw [List.getD_eq_getElem?_getD, List.getElem?_set_ne (Ne.symm e), ← List.getD_eq_getElem?_getD]
      rw [e1]
      refine (r.sl j).keep (Same.refl _) fun b hb o wz z => ?_
      rw [upd_ne fun w => e (r.dj j i b hb (by rw [w]; exact ha))]
      exact z
  · by_cases e : j = i
    · rw [if_pos e]; exact nd
    · rw [if_neg e]; exact r.nd j
  · by_cases e : j = i
    · by_cases e' : l = i
      · rw [e, e']
      · rw [if_pos e] at hj
        rw [if_neg e'] at hl
        exact absurd hj (dj l b e' hl)
    · rw [if_neg e] at hj
      by_cases e' : l = i
      · rw [if_pos e'] at hl
        exact absurd hl (dj j b e hj)
      · rw [if_neg e'] at hl
        exact r.dj j l b hj hl
  · by_cases e : j = i
    · rw [if_pos e] at hb; exact un b hb
    · rw [if_neg e] at hb; exact r.ow j b hb
end
def gApp (i : Nat) (g : List D → R D) : List D → R Fl := fun ρ => match ρ.getD i .non with
  | .lst ds => g ρ >>= fun d => if ds.length < sizeLine then .ok (.nx (ρ.set i (.lst (ds ++ [d])))) else .bad
  | _ => .bad
def gSetI (i : Nat) (g gi : List D → R D) : List D → R Fl := fun ρ => g ρ >>= fun d => gi ρ >>= fun
  | .int k => match ρ.getD i .non with
    | .lst ds => oR (ixN ds.length k) >>= fun j => .ok (.nx (ρ.set i (.lst (ds.set j d))))
    | _ => .bad
  | _ => .bad
section
variable {K : PySem.W.Frag} {E : XK} {X : Cx} {Γ n b c : List M} {a e ix : Expr} {te ti : TE} {m r mi : M} {g gi : List D → R D} {p p1 p2 p3 pos : Pos} {k : Nat}
theorem ss_app {i : Nat} (hi : Γ[i]? = some (.ow m)) (hm : m.st = true) (h : SE K E Γ te m g) : SS K E Γ Γ b c r (tDrop (tBM K "list" rAppend (tVar i) (tCons te tNil))) (gApp i g) := fun F0 H0 ρ σ F H fps N rel q => by
  obtain ⟨v, hv, st, rv⟩ := rel.get hi (fun z => nomatch z)
  refine ⟨v, hv, ?_⟩
  unfold gApp at q
  cases hd : ρ.getD i .non with
  | lst ds =>
    rw [hd] at q rv
    obtain ⟨l, vs, f1, rfl, hl, al, ef⟩ := Rv.ow_lst rv
    refine ⟨.inl ⟨rfl, vs, SqL.of hl⟩, ?_⟩
    refine h F0 H0 ρ σ F H fps _ rel ((RP.bind q).imp (fun d q1 y F1 H1 fpy x rvy fy => ?_) fun _ z => z.on rel.x0)
    obtain ⟨cz, q1⟩ := RP.ite q1
    have hl1 := x.h.at_ hl
    refine ⟨l, vs, y, rfl, rfl, hl1, by rw [al.length]; exact cz, ?_⟩
    have rel1 := rel.ext x
    have nd := rel.nd i
    have th : ∀ j a, a ∈ fps j → ∃ o, H a = some o := fun j a ha => rel.there ha
    have hlm : l ∈ fps i := by rw [ef]; exact List.mem_cons_self
    have hly : l ∉ fpy := fun z => by rw [(fy.un l z).1] at hl; cases hl
    rw [ef, List.nodup_cons] at nd
    refine q1 σ F1 _ (fun j => if j = i then l :: (f1 ++ fpy) else fps j) x.f (rel1.mut hi hv st hlm ⟨l, vs ++ [y], f1 ++ fpy, rfl, upd_same, ?_, rfl⟩ ?_ (fun a ha => ?_) fun j a hj ha hz => ?_)
    · refine Al.append (al.imp fun v d f hf q => q.keep x.f hm fun a ha o wz z => ?_) (Al.one (rvy.keep (Same.refl _) hm fun a ha o wz z => ?_))
      · rw [upd_ne (fun w => nd.1 (by rw [← w]; exact hf a ha))]; exact x.h.at_ z (notTbl_own wz)
      · rw [upd_ne (fun w => hly (by rw [← w]; exact ha))]; exact z
    · refine List.nodup_cons.mpr ⟨fun z => ?_, List.nodup_append.mpr ⟨nd.2, fy.nd, fun a ha b hb w => ?_⟩⟩
      · rcases List.mem_append.mp z with z | z
        · exact nd.1 z
        · exact hly z
      · subst w
        obtain ⟨o, z⟩ := th i a (by rw [ef]; exact List.mem_cons_of_mem _ ha)
        rw [(fy.un a hb).1] at z; cases z
    · rcases List.mem_cons.mp ha with z | z
      · exact rel1.ow i a (by rw [z]; exact hlm)
      · rcases List.mem_append.mp z with z | z
        · exact rel1.ow i a (by rw [ef]; exact List.mem_cons_of_mem _ z)
        · exact ⟨(fy.un a z).2, rel.h0.free (fy.un a z).1⟩
    · rcases List.mem_cons.mp hz with z | z
      · exact hj (rel.dj j i a ha (by rw [z]; exact hlm))
      · rcases List.mem_append.mp z with z | z
        · exact hj (rel.dj j i a ha (by rw [ef]; exact List.mem_cons_of_mem _ z))
        · obtain ⟨o, w⟩ := th j a ha
          rw [(fy.un a z).1] at w; cases w
  | _ => rw [hd] at q; exact (show False from q).elim
/-- x.append(e) -/
theorem ds_app (i : Nat) {x : Str} (U : Uni K E k X) (h : DE K E X Γ e te m g) (hi : Γ[i]? = some (.ow m) := by rfl) (hm : m.st = true := by rfl) (hN : X.N[i]? = some x := by rfl) (hv : Vis X.env.scope x := by first | exact Or.inl rfl | exact Or.inr (Or.inl rfl) | exact Or.inr (Or.inr rfl))
    (hd : (x == ("__debug__" : Str)) = false := by decide) (hcd : (x == ("__classdict__" : Str)) = false := by decide)
    (pe : PE X (.Name x p1) (tVar i) → PA X [e] (tCons te tNil) → PE X (.Call (.Attribute (.Name x p1) "append" p2) [e] [] p3) (tBM X.K "list" rAppend (tVar i) (tCons te tNil)) := by exact fun h1 h2 => pe_bm PySem.F.plainAttrs_list PySem.F.slot_list_append PySem.F.type_list_append mt_append h1 h2)
    (hs : swapsWith (.Call (.Attribute (.Name x p1) "append" p2) [e] [] p3) none pos.line X.env = pure false := by rfl) (he : starEach [e] X.env = (false, eval e X.env) :: starEach [] X.env := by rfl) :
    DS K E X Γ (.Expr (.Call (.Attribute (.Name x p1) "append" p2) [e] [] p3) pos) (tDrop (tBM K "list" rAppend (tVar i) (tCons te tNil))) Γ b c r (gApp i g) := by
  have e0 := U.K
  subst e0
  exact ⟨ps_expr (pe (pe_var hN hv hd hcd) (pa_cons h.pe pa_nil he)) hs, ss_app hi hm h.se⟩
theorem ss_setI {i : Nat} (hi : Γ[i]? = some (.ow .fr)) (h : SE K E Γ te .fr g) (h2 : SE K E Γ ti mi gi) : SS K E Γ Γ b c r (tAsg te (gSub (tVar i) ti rSetL)) (gSetI i g gi) := fun F0 H0 ρ σ F H fps N rel q => by
  refine h F0 H0 ρ σ F H fps _ rel ((RP.bind q).imp (fun d q1 y F1 H1 fpy x rvy fy => ?_) fun _ z => z.on rel.x0)
  have rel1 := rel.ext x
  obtain ⟨v, hv, st, rv⟩ := rel1.get hi (fun z => nomatch z)
  refine ⟨v, hv, ?_⟩
  refine h2.pk F0 H0 ρ σ F1 H1 fps _ rel1 ((RP.bind q1).imp (fun dk q2 kv F2 H2 fpk x2 rvk fk => ?_) fun _ z => z.on rel1.x0)
  have rel2 := rel1.ext x2
  cases dk with
  | int kk =>
    cases hd : ρ.getD i .non with
    | lst ds =>
      have q3 : RP (match ρ.getD i .non with | .lst ds => oR (ixN ds.length kk) >>= fun j => R.ok (Fl.nx (ρ.set i (.lst (ds.set j d)))) | _ => .bad) (FP K F0 H0 F Γ b c r N) (XP K E F0 H0) := q2
      rw [hd] at q3 rv
      obtain ⟨j, hj, q4⟩ := oR_ok (RP.bind q3)
      obtain ⟨l, vs, f1, rfl, hl, al, ef⟩ := Rv.ow_lst (rv.grow x2.f x2.h)
      obtain ⟨fz, e1⟩ := al.fr
      subst e1
      refine ⟨l, vs, kk, j, rfl, rvk.1.intOf, hl, by rw [fz.length]; exact hj, ?_⟩
      have hlm : l ∈ fps i := by rw [ef]; exact List.mem_cons_self
      refine q4 σ F2 _ (fun j => if j = i then [l] else fps j) (x.f.trans x2.f) (rel2.mut hi hv st hlm ⟨l, vs.set j y, [], rfl, upd_same, (fz.set j (rvy.1.mono x2.f)).al, rfl⟩ (by simp) (fun a ha => ?_) fun jj a hjj ha hz => ?_)
      · have e : a = l := by simpa using ha
        subst e
        exact rel2.ow i a hlm
      · have e : a = l := by simpa using hz
        subst e
        exact hjj (rel2.dj jj i a ha hlm)
    | _ =>
      have q3 : RP (match ρ.getD i .non with | .lst ds => oR (ixN ds.length kk) >>= fun j => R.ok (Fl.nx (ρ.set i (.lst (ds.set j d)))) | _ => .bad) (FP K F0 H0 F Γ b c r N) (XP K E F0 H0) := q2
      rw [hd] at q3
      exact (show False from q3).elim
  | _ => exact (show False from q2).elim
/-- x[i] = e -/
theorem ds_setI (i : Nat) {x : Str} (U : Uni K E k X) (h : DE K E X Γ e te .fr g) (h2 : DE K E X Γ ix ti mi gi) (hi : Γ[i]? = some (.ow .fr) := by rfl) (hN : X.N[i]? = some x := by rfl) (hv : Vis X.env.scope x := by first | exact Or.inl rfl | exact Or.inr (Or.inl rfl) | exact Or.inr (Or.inr rfl))
    (hd : (x == ("__debug__" : Str)) = false := by decide) (hcd : (x == ("__classdict__" : Str)) = false := by decide)
    (pg : PE X (.Name x p1) (tVar i) → PE X ix ti → PG X (.Subscript (.Name x p1) ix p2) (gSub (tVar i) ti rSetL) := by exact fun h1 h2 => pg_sub h1 h2 set_list)
    (ps : PE X e te → PG X (.Subscript (.Name x p1) ix p2) (gSub (tVar i) ti rSetL) → PS X (.Assign [.Subscript (.Name x p1) ix p2] e pos) (tAsg te (gSub (tVar i) ti rSetL)) := by exact fun h1 h2 => ps_asg h1 h2) :
    DS K E X Γ (.Assign [.Subscript (.Name x p1) ix p2] e pos) (tAsg te (gSub (tVar i) ti rSetL)) Γ b c r (gSetI i g gi) := ⟨ps h.pe (pg (pe_var hN hv hd hcd) h2.pe), ss_setI hi h.se h2.se⟩
end
end DL
/-! DLl: comprehensions stored, unpacking, op=, [x] * n, bit_length. -/
namespace DL
open PySem L2
variable [Tbs]

section
variable {K : PySem.W.Frag} {E : XK} {X : Cx} {Γ Γ' n b c : List M} {e a a2 : Expr} {t te ta tb : TE} {tt : TT} {m mm r ma mb : M} {g ga gb : List D → R D} {pos spos p1 p2 : Pos} {k : Nat} {is : List Nat} {wi : TI} {tg : TG} {src : List D → R (List D)} {gt : D → List D → Option (List D)} {gq : List D → R Bool} {ge : List D → R D}
theorem dts_nil : PTs X [] tYes ∧ ST K E Γ tYes gtt := ⟨pts_nil, fun F0 H0 ρ σ F H fps Q rel q => q F H (Ext.refl rel.fh)⟩
theorem dts_one (h : DT K E X Γ e tt gq) : PTs X [e] tt ∧ ST K E Γ tt gq := ⟨pts_one h.pt, h.st⟩
/-- y = [e for target in iter if test], y a local -/
theorem ds_setLc (i : Nat) {y : Str} {py : Pos} {elt tge iter : Expr} {ifs : List Expr} {scope : Scope} {own : List (Str × Nat)} (U : Uni K E k X) (hi : DI K E X Γ tge iter wi m src) (ok : BlkOk X.N X.env.scope scope own)
    (hg : ∀ (s : Shared) (H : Hp) (C : Addr) (cl : List (Str × Addr)) (fp : List Addr), Uni K E0 k (X.blk s H scope (compEnvC scope cl C X.env) fp) → DG K (X.blk s H scope (compEnvC scope cl C X.env) fp) (wipeM Γ (own.map (·.2))) Γ' m is tge tg gt)
    (ht : ∀ (s : Shared) (H : Hp) (C : Addr) (cl : List (Str × Addr)) (fp : List Addr), Uni K E0 k (X.blk s H scope (compEnvC scope cl C X.env) fp) → PTs (X.blk s H scope (compEnvC scope cl C X.env) fp) ifs tt ∧ ST K E0 Γ' tt gq)
    (he : ∀ (s : Shared) (H : Hp) (C : Addr) (cl : List (Str × Addr)) (fp : List Addr), Uni K E0 k (X.blk s H scope (compEnvC scope cl C X.env) fp) → DE K E0 (X.blk s H scope (compEnvC scope cl C X.env) fp) Γ' elt te mm ge)
    (hN : X.N[i]? = some y := by rfl) (hyl : X.env.scope.names.lookup y = some .local := by rfl) (hl : i < Γ.length := by first | decide | simp)
    (hsw : swapsWith (.ListComp elt [⟨tge, iter, ifs, 0⟩] scope pos) (some (.Name y py)) spos.line X.env = pure true := by exact sw_true rfl rfl rfl (by decide +kernel))
    (hs : ∀ i ∈ is, i ∈ own.map (·.2) := by decide) (hm : mm.st = true := by rfl) (hf : ∀ x, foldedSetIterable iter X.env x = pure x := by intro _; rfl) :
    DS K E X Γ (.Assign [.Name y py] (.ListComp elt [⟨tge, iter, ifs, 0⟩] scope pos) spos) (tAsg (tLc wi tg tt te (own.map (·.2))) (gName i)) (Γ.set i (.ow mm)) b c r (gSet i (gLc src gt gq ge)) := by
  have UB : ∀ (s : Shared) (H : Hp) (C : Addr) (cl : List (Str × Addr)) (fp : List Addr), Uni K E0 k (X.blk s H scope (compEnvC scope cl C X.env) fp) := fun s H C cl fp =>
    ⟨U.K, U.nd, U.calm, U.room, U.hu, PassesOwn.never, passL, takes0, U.bn⟩
  have s0 : Shared := X.s_0
  refine ⟨ps_setLc U.calm U.nd hN hyl hsw hi.pi ok (fun s H C cl fp => (hg s H C cl fp (UB s H C cl fp)).pg) (fun s H C cl fp => (ht s H C cl fp (UB s H C cl fp)).1) (fun s H C cl fp => (he s H C cl fp (UB s H C cl fp)).pe) hf, ?_⟩
  exact ss_set (se_lc hi.si (hg s0 (fun _ => none) 0 [] [] (UB _ _ _ _ _)).sg hs (ht s0 (fun _ => none) 0 [] [] (UB _ _ _ _ _)).2 (he s0 (fun _ => none) 0 [] [] (UB _ _ _ _ _)).se hm) hl hm
/-! a, b = e -/
def gUnp (g : List D → R D) (gt : D → List D → Option (List D)) : List D → R Fl := fun ρ => g ρ >>= fun d => oR (gt d ρ) >>= fun ρ' => .ok (.nx ρ')
theorem ss_unp (h : SE K E Γ te .fr g) (h2 : SG K Γ Γ' .fr is tg gt) : SS K E Γ Γ' b c r (tAsg te tg) (gUnp g gt) := fun F0 H0 ρ σ F H fps N rel q => by
  refine h F0 H0 ρ σ F H fps _ rel ((RP.bind q).imp (fun d hd v F' H' fp x rv f => ?_) fun _ z => z.on rel.x0)
  exact h2 F0 H0 ρ σ F' H' fps v d _ (rel.ext x) ⟨rv.1, rfl⟩ (RP.oR (RP.bind hd) fun ρ' q' σ' fps' rel' _ _ => q' σ' F' H' fps' x.f rel')
theorem ds_unp {tge : Expr} (U : Uni K E k X) (h : DE K E X Γ e te .fr g) (h2 : DG K X Γ Γ' .fr is tge tg gt)
    (ps : PE X e te → PG X tge tg → PS X (.Assign [tge] e pos) (tAsg te tg) := by exact fun h1 h2 => ps_asg h1 h2) : DS K E X Γ (.Assign [tge] e pos) (tAsg te tg) Γ' b c r (gUnp g gt) := ⟨ps h.pe h2.pg, ss_unp h.se h2.sg⟩
/-! x op= e -/
def gAug (i : Nat) (f : D → D → R D) (g : List D → R D) : List D → R Fl := fun ρ => g ρ >>= fun y => f (ρ.getD i .non) y >>= fun z => .ok (.nx (ρ.set i z))
theorem ss_aug {i : Nat} {f : D → D → R D} {rr : R2} {mi : M} (hi : Γ[i]? = some mi) (hu : mi ≠ .un) (h : SE K E Γ te m g) (hs : SO2 K rr mm f) (hm : mm.st = true) (hx : ∀ x y e, f x y ≠ .exc e) : SS K E Γ (Γ.set i mm) b c r (tAug i te rr) (gAug i f g) := fun F0 H0 ρ σ F H fps N rel q => by
  obtain ⟨v, hv, st, rv⟩ := rel.get hi hu
  refine ⟨v, hv, ?_⟩
  refine h.pk F0 H0 ρ σ F H fps _ rel ((RP.bind q).imp (fun d q1 y F1 H1 fpy x rvy fy => ?_) fun _ z => z.on rel.x0)
  have rel1 := rel.ext x
  refine hs H0 F1 H1 v y (ρ.getD i .non) d _ x.fh rel1.h0 ((rv.grow x.f x.h).pk x.fh rel1.h0) rvy.1 ?_
  have q2 := RP.bind q1
  cases hf : f (ρ.getD i .non) d with
  | ok z =>
    rw [hf] at q2
    intro w F2 H2 fpw x2 rvw fw
    exact (show FP K F0 H0 F (Γ.set i mm) b c r N (.nx (ρ.set i z)) from q2) _ F2 H2 _ (x.f.trans x2.f) (rel1.store x2 (by rw [rel1.lg]; exact (List.getElem?_eq_some_iff.mp hv).1) hm rvw fw)
  | exc e => exact absurd hf (hx _ _ _)
  | bad => rw [hf] at q2; exact q2
theorem ds_augI {op : Operator} {f : D → D → R D} {rr : R2} (i : Nat) {x : Str} {mi : M} (U : Uni K E k X) (ho : PIp X op rr) (hs : SO2 K rr mm f) (hx' : ∀ x y e, f x y ≠ .exc e) (h : DE K E X Γ e te m g) (hi : Γ[i]? = some mi) (hu : mi ≠ .un) (hm : mm.st = true)
    (hN : X.N[i]? = some x) (hx : Loc X.env.scope x) (hf : X.fn x = true ∨ X.env.scope.names.lookup x = some .local) :
    DS K E X Γ (.AugAssign (.Name x p1) op e pos) (tAug i te rr) (Γ.set i mm) b c r (gAug i f g) := ⟨ps_aug U.nd hN hx h.pe ho hf, ss_aug hi hu h.se hs hm hx'⟩
def dAugAdd : D → D → R D := dI0 fun i j => i + j
def dAugSub : D → D → R D := dI0 fun i j => i - j
def dAugBitXor : D → D → R D := dI0 fun i j => Builtin.bitXor i j
theorem ds_augAdd (i : Nat) {x : Str} {mi : M} (U : Uni K E k X) (h : DE K E X Γ e te m g) (hi : Γ[i]? = some mi := by rfl) (hu : mi ≠ .un := by exact fun z => nomatch z)
    (hN : X.N[i]? = some x := by rfl) (hx : Loc X.env.scope x := by first | exact Or.inl rfl | exact Or.inr rfl) (hf : X.fn x = true ∨ X.env.scope.names.lookup x = some .local := by first | exact .inl rfl | exact .inr rfl) :
    DS K E X Γ (.AugAssign (.Name x p1) .Add e pos) (tAug i te (rI0 fun i j => .int (i + j))) (Γ.set i .fr) b c r (gAug i dAugAdd g) := ds_augI i U iop_add so_I0 dI0_x h hi hu rfl hN hx hf
theorem ds_augSub (i : Nat) {x : Str} {mi : M} (U : Uni K E k X) (h : DE K E X Γ e te m g) (hi : Γ[i]? = some mi := by rfl) (hu : mi ≠ .un := by exact fun z => nomatch z)
    (hN : X.N[i]? = some x := by rfl) (hx : Loc X.env.scope x := by first | exact Or.inl rfl | exact Or.inr rfl) (hf : X.fn x = true ∨ X.env.scope.names.lookup x = some .local := by first | exact .inl rfl | exact .inr rfl) :
    DS K E X Γ (.AugAssign (.Name x p1) .Sub e pos) (tAug i te (rI0 fun i j => .int (i - j))) (Γ.set i .fr) b c r (gAug i dAugSub g) := ds_augI i U iop_sub so_I0 dI0_x h hi hu rfl hN hx hf
theorem ds_augBitXor (i : Nat) {x : Str} {mi : M} (U : Uni K E k X) (h : DE K E X Γ e te m g) (hi : Γ[i]? = some mi := by rfl) (hu : mi ≠ .un := by exact fun z => nomatch z)
    (hN : X.N[i]? = some x := by rfl) (hx : Loc X.env.scope x := by first | exact Or.inl rfl | exact Or.inr rfl) (hf : X.fn x = true ∨ X.env.scope.names.lookup x = some .local := by first | exact .inl rfl | exact .inr rfl) :
    DS K E X Γ (.AugAssign (.Name x p1) .BitXor e pos) (tAug i te (rI0 fun i j => .int (Builtin.bitXor i j))) (Γ.set i .fr) b c r (gAug i dAugBitXor g) := ds_augI i U iop_xor so_I0 dI0_x h hi hu rfl hN hx hf
/-! [x] * n -/
def dRep : D → D → R D
  | .lst ds, .int k => if -(2 ^ 63) ≤ k ∧ k < 2 ^ 63 ∧ ds.length * k.toNat ≤ sizeLine then .ok (.lst (List.replicate k.toNat ds).flatten) else .bad
  | _, _ => .bad
theorem se_rep (ha : SE K E Γ ta (.ow .fr) ga) (hb : SE K E Γ tb mb gb) : SE K E Γ (tOp rRep ta tb) (.ow .fr) (g2 dRep ga gb) := fun F0 H0 ρ σ F H fps Q rel q => by
  refine ha F0 H0 ρ σ F H fps _ rel ((RP.bind q).imp (fun dx q1 x F1 H1 fp1 e1 rv1 f1 => ?_) fun _ z => z)
  refine hb.pk F0 H0 ρ σ F1 H1 fps _ (rel.ext e1) ((RP.bind q1).imp (fun dy q2 y F2 H2 fp2 e2 rv2 f2 => ?_) fun _ z => z.on e1)
  cases dx with
  | lst ds =>
    cases dy with
    | int kk =>
      obtain ⟨⟨c1, c2, c3⟩, q3⟩ := RP.ite' (show RP (if _ then _ else _) _ _ from q2)
      obtain ⟨l, vs, f3, rfl, hl, al, ef⟩ := Rv.ow_lst rv1
      obtain ⟨fz, _⟩ := al.fr
      refine ⟨l, kk, vs, rfl, rv2.1.intOf, e2.h.at_ hl, c1, c2, by rw [fz.length]; exact c3, fun p hp => ?_⟩
      exact VP.newL (VP.on q3 (e1.trans e2)) e2.fh hp ((fz.mono e2.f).rep kk.toNat)
    | _ => exact (show False from q2).elim
  | _ => cases dy <;> exact (show False from q2).elim
theorem de_rep (U : Uni K E k X) (ha : DE K E X Γ a ta (.ow .fr) ga) (hb : DE K E X Γ a2 tb mb gb) : DE K E X Γ (.BinOp a .Mult a2 pos) (tOp rRep ta tb) (.ow .fr) (g2 dRep ga gb) := ⟨pe_op op_rep ha.pe hb.pe, se_rep ha.se hb.se⟩
/-! x.bit_length() -/
def dBits : D → R D
  | .int i => .ok (.int (Builtin.Int.intBits i : Nat))
  | _ => .bad
theorem de_bits {apos : Pos} (h : DE K E X Γ a ta ma ga) (hbase : attributeBase a "bit_length" X.env (eval a X.env) = eval a X.env := by rfl) (hline : (apos.endLine == pos.line) = true := by rfl) : DE K E X Γ (.Call (.Attribute a "bit_length" apos) [] [] pos) (tBits ta) .fr (g1 dBits ga) :=
  ⟨pe_bits h.pe hbase hline, fun F0 H0 ρ σ F H fps Q rel q => by
    refine h.se.pk F0 H0 ρ σ F H fps _ rel ((RP.bind q).imp (fun d hd v F' H' fp x rv f => ?_) fun _ z => z)
    cases d with
    | int i => exact ⟨i, rv.1.intOf, VP.old (VP.on (show VP K H0 F H .fr _ Q from hd) x) x.fh (.int _)⟩
    | _ => exact (show False from hd).elim⟩
end
end DL
/-! DLm: a module's constants; the end of a law. -/
namespace DL
open PySem L2
variable [Tbs]
/-- a constant of the module -/
def Cst (K : PySem.W.Frag) (mg : Str → Option Value) (x : Str) (v : V) (d : D) : Prop := ∃ u, mg x = some u ∧ RelV v u ∧ ∀ F : Hp, Fz K F v d
omit [Tbs] in
theorem Cst.int {K : PySem.W.Frag} {mg : Str → Option Value} {x : Str} {i : Int} {t : Tok} (h : mg x = some (.int i t)) : Cst K mg x (.int i) (.int i) := ⟨_, h, ⟨t, rfl⟩, fun _ => .int i⟩
omit [Tbs] in
theorem Cst.str {K : PySem.W.Frag} {mg : Str → Option Value} {x z : Str} {t : Tok} (h : mg x = some (.str z t)) : Cst K mg x (.str z) (.str z) := ⟨_, h, ⟨t, rfl⟩, fun _ => .str z⟩
/-- no tables -/
@[reducible] def noTbs : Tbs := ⟨[]⟩
omit [Tbs] in
theorem walk_law {l : PySem.W.OpenLaw} {k : Nat} {q : Program} {loose : List Str} {XP : (Str → Option Value) → Heap → Prop} {YP : World → Heap → Prop} {d : DefRec} {K : Params → PySem.W.Frag} {x : Str} {f : List D → R D}
    (hf : ∀ ns : List Int, ns.length ≤ 63 → (∀ z ∈ ns, Builtin.Int.intBits z ≤ 1048576) → f [.lst (ns.map D.int)] = .ok (.bl true))
    (hn : l.most = some 63) (hdf : d.params.defaults = []) (hr : Room k callerA) (hY : ∀ (w : World) (h : Heap), YP w h → (K w.params).In h)
    (F : ∀ (w : World) (mg : Str → Option Value) (fa : Addr) (h : Heap), (K w.params).In h → h.Ns mainGlobals mg → mg d.name = some (.ref fa) →
      ∃ fd : FuncData, (∀ (s : Shared) (u : Value), BindsTo s fd ⟨[u], []⟩ [(x, u)]) ∧
        ∀ base : Heap, (K w.params).In base → base.Ns mainGlobals mg → FnOk l.prog w (K w.params) mg base (L2.CX l.prog w) k fa fd [x] (@spD noTbs (K w.params) [.fr] .fr f)) :
    PySem.W.WalkO q loose XP YP l.row.toRowW d [] (fun f vs => PySem.call f vs) :=
  L2.walk_ofB (n := 63) (k := k) (x := x) (CX := fun w => L2.CX l.prog w) (sp := fun w => @spD noTbs (K w.params) [.fr] .fr f) hn (by decide) hdf hr hY F
    (fun w H a ns hl hb _ hS => ⟨H, [.lst (ns.map D.int)], Same.refl _, (fun _ hp => nomatch hp), .cons ⟨.lst hS (FzL.ints ns), rfl⟩ .nil, by
      rw [hf ns hl hb]
      intro v F' H' fp x rv fr
      exact (Bo.fz (H := H') rv.1).blOf⟩) fun w H s e s' h => by
        obtain ⟨_, _, _, _, _, _, _, _, _, _, _, _, z⟩ := h
        exact z
end DL
/-! DLn: xs += ys, insert, a, b = x, y, list(range), tuple(range). -/
namespace DL
open PySem PySem.Spec PyProof.Rows L2
variable [Tbs]

/-! ### xs += a tuple or a list -/
omit [Tbs] in
theorem binaryOp1_apart {M : Model} {A : Around} {E : Value → Shared → Prop} {s : Shared} {a b : Value} {T U nm : String} {Q : Option Value → Shared → Prop} (hTU : (Value.type T == Value.type U) = false) (ha : s.TypeIs a T) (hb : s.TypeIs b U)
    (hT : fillsNumberSlot (.type T) nm = pure false) (hU : fillsNumberSlot (.type U) nm = pure false) (h : Q none s) : wpAny M A (binaryOp1 nm a b) Q E s := by
  simp only [binaryOp1]
  refine wpAny_bind (wpAny_typeOf ha (wpAny_bind (wpAny_typeOf hb (wpAny_bind (wpAny_of_eq hT ?_)))))
  simp only [hTU, Bool.false_eq_true, if_false]
  refine wpAny_bind (wpAny_of_eq hU ?_)
  simp only [pure_bind, Bool.false_and, Bool.false_eq_true, if_false]
  exact wpAny_pure h
omit [Tbs] in
theorem iadd_roadT {M : Model} {A : Around} {E : Value → Shared → Prop} {s : Shared} {a b : Value} {Q : Value → Shared → Prop} (ha : s.TypeIs a "list") (hb : s.TypeIs b "tuple") (hc : wpAny M A (call (.builtin "list.__iadd__") [a, b]) Q E s) : wpAny M A (inplaceOp .Add a b) Q E s := by
  have hsl : typeLookup (.type "list") (dunderI "add") = pure (some (.builtin "list.__iadd__")) := PySem.F.slot_list_iadd.lookup
  have hsq : isSeqSlot (some (.builtin "list.__iadd__")) = true := by decide +kernel
  have hfi : fillsInplaceSlot (.type "list") "add" (Operator.Add == .Add) = pure false := by
    unfold fillsInplaceSlot
    show (typeLookup (.type "list") (dunderI "add") >>= fun fi => pure (fi.isSome && !isSeqSlot fi)) = pure false
    rw [hsl]
    show (pure (true && !isSeqSlot (some (.builtin "list.__iadd__"))) : Sem Bool) = pure false
    rw [hsq] <;> rfl
  have hsi : seqSlot? (.type "list") (dunderI "add") = pure (some (.builtin "list.__iadd__")) := PySem.seqSlot_of hsl hsq
  unfold inplaceOp
  refine wpAny_holding ?_
  refine wpAny_bind (wpAny_typeOf ha (wpAny_bind (wpAny_of_eq hfi ?_)))
  show wpAny M A (if false = true then _ else _) Q E s
  rw [if_neg Bool.false_ne_true]
  refine wpAny_bind (binaryOp1_apart (nm := "add") (by decide) ha hb noFill_list_add noFill_tuple_add ?_)
  refine wpAny_bind (wpAny_of_eq hsi ?_)
  exact wpAny_bind (wpAny_rule hc)
omit [Tbs] in
theorem extendWith_tup {M : Model} {A : Around} {E : Value → Shared → Prop} {s : Shared} {l b : Addr} {its its2 : Array Value} {n : Nat} {res : Value} {Q : Fin → Shared → Prop} (e : s.heap.get? l = some { cls := .type "list", data := .seq its n }) (e2 : IsTup s.heap b its2)
    (hz : its.size + its2.size ≤ sizeLine) (h : Q (.done (.ret res)) { s with heap := s.heap.update l (Obj.mapSeq fun x => x ++ its2) }) : wpAny M A (Builtin.List.listExtendWith (.ref l) (.ref b) res) Q E s := by
  obtain ⟨o, e2, hc, n2, hd⟩ := e2
  unfold Builtin.List.listExtendWith
  refine wpAny_bind (wpAny_typeOf ⟨o, e2, hc⟩ ?_)
  have h1 : (Builtin.List.listSameRef (.ref l) (.ref b) || Value.type "tuple" == Value.type "list" || Value.type "tuple" == Value.type "tuple") = true := by simp
  simp only [h1, if_true]
  refine wpAny_bind ?_
  unfold Builtin.List.listItems
  refine wpAny_bind (wpAny_seqItems e2 hd (wpAny_pure ?_))
  refine wpAny_bind ?_
  refine wpAny_bind (wpAny_seqItems e rfl (wpAny_pure ?_))
  have h2 : (!its.isEmpty && Builtin.List.listTooLong (its.size + its2.size)) = false := by rw [notLongL hz, Bool.and_false]
  simp only [h2, Bool.false_eq_true, if_false]
  refine wpAny_bind (show wpAny M A (updateSeq l (· ++ its2)) _ _ _ from wpAny_updateSeq e rfl ?_ (by omega) (by rw [Array.size_append]; omega))
  exact wpAny_pure h
omit [Tbs] in
theorem list_iadd_tup (l : Addr) (items : Array Value) (n : Nat) (b : Addr) (items2 : Array Value) (hz : items.size + items2.size ≤ sizeLine) :
    Meets (Builtin.«list.__iadd__» ⟨[.ref l, .ref b], []⟩) (fun _ R s => s.heap.get? l = some { cls := .type "list", dict := none, data := .seq items n, slots := #[] } ∧ IsTup s.heap b items2 ∧ R (.ok (.ret (Value.ref l))) { s with heap := s.heap.update l (Obj.mapSeq fun x => x ++ items2) }) :=
  .of_wp fun prog w A R s h => extendWith_tup h.1 h.2.1 hz ⟨_, rfl, h.2.2⟩
omit [Tbs] in
theorem list_iadd_lst (l : Addr) (items : Array Value) (n : Nat) (b : Addr) (items2 : Array Value) (hz : items.size + items2.size ≤ sizeLine) :
    Meets (Builtin.«list.__iadd__» ⟨[.ref l, .ref b], []⟩) (fun _ R s => s.heap.get? l = some { cls := .type "list", dict := none, data := .seq items n, slots := #[] } ∧ PlainL s.heap b items2 ∧ R (.ok (.ret (Value.ref l))) { s with heap := s.heap.update l (Obj.mapSeq fun x => x ++ items2) }) :=
  .of_wp fun prog w A R s h => by
    obtain ⟨e, ⟨o, n2, e2, hc, _, hd⟩, q⟩ := h
    show wpAny _ _ (Builtin.List.listExtendWith (.ref l) (.ref b) (.ref l)) _ _ s
    unfold Builtin.List.listExtendWith
    refine wpAny_bind (wpAny_typeOf ⟨o, e2, hc⟩ ?_)
    have h1 : (Builtin.List.listSameRef (.ref l) (.ref b) || Value.type "list" == Value.type "list" || Value.type "list" == Value.type "tuple") = true := by simp
    simp only [h1, if_true]
    refine wpAny_bind ?_
    unfold Builtin.List.listItems
    refine wpAny_bind (wpAny_seqItems e2 hd (wpAny_pure ?_))
    refine wpAny_bind ?_
    refine wpAny_bind (wpAny_seqItems e rfl (wpAny_pure ?_))
    have h2 : (!items.isEmpty && Builtin.List.listTooLong (items.size + items2.size)) = false := by rw [notLongL hz, Bool.and_false]
    simp only [h2, Bool.false_eq_true, if_false]
    refine wpAny_bind (show wpAny _ _ (updateSeq l (· ++ items2)) _ _ _ from wpAny_updateSeq e rfl ?_ (by omega) (by rw [Array.size_append]; omega))
    exact wpAny_pure ⟨_, rfl, q⟩
def rExtA (K : PySem.W.Frag) : R2 := fun x y H Q => ∃ l b xs zs, x = .ref l ∧ y = .ref b ∧ H l = some (.lst xs) ∧ (SqT K H b zs ∨ SqL K H b zs) ∧ xs.length + zs.length ≤ sizeLine ∧ Q (.ref l) (upd H l (.lst (xs ++ zs)))
omit [Tbs] in
theorem iop_extA {X : Cx} : OpR X (inplaceOp .Add) (rExtA X.K) := by
  intro pins s σ H x y v u Q I rx ry h
  obtain ⟨l, b, xs, zs, rfl, rfl, hH, hB, hz, q⟩ := h
  cases rx
  cases ry
  obtain ⟨z, its, n, r, hl, e⟩ := I.lstM hH
  rcases hB with hB | hB
  · obtain ⟨its2, r2, tp, hl2⟩ := I.tuple hB
    have l2 := r2.length
    obtain ⟨o, e2, hc, n2, hd⟩ := tp
    refine iadd_roadT ⟨_, e, rfl⟩ ⟨_, e2, hc⟩ (call_meets PySem.F.slot_list_iadd ⟨_, e, rfl⟩ PySem.F.entry_list_iadd (PySem.F.args_list_iadd_2 _ _)
      (list_iadd_tup l its.toArray n b its2.toArray (by rw [List.size_toArray, List.size_toArray]; omega)) ⟨e, ⟨o, e2, hc, n2, hd⟩, ?_⟩)
    refine ⟨.ref l, _, I.lset (its' := its ++ its2) (t' := s.toks) hH e (by simp) (r.append r2) ?_, rfl, q⟩
    rw [List.length_append]
    omega
  · obtain ⟨its2, r2, tp, hl2⟩ := I.list hB
    have l2 := r2.length
    obtain ⟨o, n2, e2, hc, hx, hd⟩ := tp
    refine iadd_road ⟨_, e, rfl⟩ ⟨_, e2, hc⟩ (call_meets PySem.F.slot_list_iadd ⟨_, e, rfl⟩ PySem.F.entry_list_iadd (PySem.F.args_list_iadd_2 _ _)
      (list_iadd_lst l its.toArray n b its2.toArray (by rw [List.size_toArray, List.size_toArray]; omega)) ⟨e, ⟨o, n2, e2, hc, hx, hd⟩, ?_⟩)
    refine ⟨.ref l, _, I.lset (its' := its ++ its2) (t' := s.toks) hH e (by simp) (r.append r2) ?_, rfl, q⟩
    rw [List.length_append]
    omega
def dSeq : D → R (List D)
  | .lst ds => .ok ds
  | .tup ds => .ok ds
  | _ => .bad
/-- xs += ys : xs an own list of frozen things, ys frozen -/
def gExt (i : Nat) (g : List D → R D) : List D → R Fl := fun ρ => g ρ >>= fun y => dSeq y >>= fun zs => match ρ.getD i .non with
  | .lst ds => if ds.length + zs.length ≤ sizeLine then .ok (.nx (ρ.set i (.lst (ds ++ zs)))) else .bad
  | _ => .bad
omit [Tbs] in
theorem List.set_self {α : Type} : ∀ {l : List α} {i : Nat} {a : α}, l[i]? = some a → l.set i a = l
  | [], _, _, h => nomatch h
  | x :: xs, 0, a, h => by cases h; rfl
  | x :: xs, i + 1, a, h => by rw [List.set_cons_succ, List.set_self (show xs[i]? = some a from h)]
section
variable {K : PySem.W.Frag} {E : XK} {X : Cx} {Γ n b c : List M} {a e ix : Expr} {te ti : TE} {m r mi : M} {g gi : List D → R D} {p p1 p2 p3 pos : Pos} {k : Nat}
omit [Tbs] in
theorem fz_seq {F : Hp} {v : V} {d : D} {zs : List D} (h : Fz K F v d) (e : dSeq d = .ok zs) : ∃ b vs, v = .ref b ∧ (SqT K F b vs ∨ SqL K F b vs) ∧ FzL K F vs zs := by
  cases d with
  | lst ds =>
    cases e
    obtain ⟨a, vs, e1, h1, h2⟩ := h.listOf
    exact ⟨a, vs, e1, .inr h1, h2⟩
  | tup ds =>
    cases e
    obtain ⟨a, vs, e1, h1, h2⟩ := h.tupOf
    exact ⟨a, vs, e1, .inl h1, h2⟩
  | _ => nomatch e
theorem ss_ext {i : Nat} (hi : Γ[i]? = some (.ow .fr)) (h : SE K E Γ te .fr g) : SS K E Γ Γ b c r (tAug i te (rExtA K)) (gExt i g) := fun F0 H0 ρ σ F H fps N rel q => by
  obtain ⟨v, hv, st, _⟩ := rel.get hi (fun z => nomatch z)
  refine ⟨v, hv, ?_⟩
  refine h F0 H0 ρ σ F H fps _ rel ((RP.bind q).imp (fun d q1 y F1 H1 fpy x rvy fy => ?_) fun _ z => z.on rel.x0)
  have rel1 := rel.ext x
  cases hz : dSeq d with
  | ok zs =>
    obtain ⟨b1, vb, rfl, sq, fzb⟩ := fz_seq rvy.1 hz
    have q2 : RP (match ρ.getD i .non with | .lst ds => if ds.length + zs.length ≤ sizeLine then R.ok (Fl.nx (ρ.set i (.lst (ds ++ zs)))) else .bad | _ => .bad) (FP K F0 H0 F Γ b c r N) (XP K E F0 H0) := by
      have w := q1
      rw [hz] at w
      exact w
    obtain ⟨v', hv', st', rv⟩ := rel1.get hi (fun z => nomatch z)
    have ev : v' = v := by rw [hv] at hv'; exact (Option.some.inj (Option.some.inj hv')).symm
    subst ev
    cases hd : ρ.getD i .non with
    | lst ds =>
      rw [hd] at q2 rv
      obtain ⟨cz, q3⟩ := RP.ite q2
      obtain ⟨l, vs, f1, rfl, hl, al, ef⟩ := Rv.ow_lst rv
      obtain ⟨fz, e1⟩ := al.fr
      subst e1
      refine ⟨l, b1, vs, vb, rfl, rfl, hl, ?_, by rw [fz.length, fzb.length]; exact cz, ?_⟩
      · rcases sq with s1 | s1
        · exact .inl (Same.sqt rel1.fh s1)
        · exact .inr (rel1.fh.seq s1)
      have hlm : l ∈ fps i := by rw [ef]; exact List.mem_cons_self
      show N.nx (σ.set i (some (.ref l))) _
      rw [List.set_self hv']
      refine q3 σ F1 _ (fun j => if j = i then [l] else fps j) x.f (rel1.mut hi hv' st' hlm ⟨l, vs ++ vb, [], rfl, upd_same, (fz.append fzb).al, rfl⟩ (by simp) (fun a ha => ?_) fun jj a hjj ha hz => ?_)
      · have e : a = l := by simpa using ha
        subst e
        exact rel1.ow i a hlm
      · have e : a = l := by simpa using hz
        subst e
        exact hjj (rel1.dj jj i a ha hlm)
    | _ => rw [hd] at q2; exact (show False from q2).elim
  | exc e =>
    cases d <;> cases hz
  | bad =>
    have w := q1
    rw [hz] at w
    exact (show False from w).elim
theorem ds_ext (i : Nat) {x : Str} (U : Uni K E k X) (h : DE K E X Γ e te .fr g) (hi : Γ[i]? = some (.ow .fr) := by rfl)
    (hN : X.N[i]? = some x := by rfl) (hx : Loc X.env.scope x := by first | exact Or.inl rfl | exact Or.inr rfl) (hf : X.fn x = true ∨ X.env.scope.names.lookup x = some .local := by first | exact .inl rfl | exact .inr rfl) :
    DS K E X Γ (.AugAssign (.Name x p1) .Add e pos) (tAug i te (rExtA K)) Γ b c r (gExt i g) := by
  have e0 := U.K
  subst e0
  exact ⟨ps_aug U.nd hN hx h.pe iop_extA hf, ss_ext hi h.se⟩
/-! ### xs.insert(i, e) -/
def toI? : D → R Int
  | .int j => .ok j
  | _ => .bad
def gIns (i : Nat) (gi g : List D → R D) : List D → R Fl := fun ρ => match ρ.getD i .non with
  | .lst ds => gi ρ >>= fun k => g ρ >>= fun d => toI? k >>= fun j => if 0 ≤ j ∧ j < 2 ^ 63 ∧ ds.length < sizeLine then .ok (.nx (ρ.set i (.lst (ds.take j.toNat ++ [d] ++ ds.drop j.toNat)))) else .bad
  | _ => .bad
abbrev rIns : V → List V → Hp → VK → Prop := fun x vs H Q => ∃ (l : Addr) (xs : List V) (i : Int) (y : V), x = .ref l ∧ vs = [.int i, y] ∧ H l = some (.lst xs) ∧ xs.length < sizeLine ∧ 0 ≤ i ∧ i < 2 ^ 63 ∧
    Q .non (upd H l (.lst (xs.take i.toNat ++ [y] ++ xs.drop i.toNat)))
theorem ss_ins {i : Nat} (hi : Γ[i]? = some (.ow .fr)) (h2 : SE K E Γ ti mi gi) (h : SE K E Γ te .fr g) : SS K E Γ Γ b c r (tDrop (tBM K "list" rIns (tVar i) (tCons ti (tCons te tNil)))) (gIns i gi g) := fun F0 H0 ρ σ F H fps N rel q => by
  obtain ⟨v, hv, st, rv⟩ := rel.get hi (fun z => nomatch z)
  refine ⟨v, hv, ?_⟩
  unfold gIns at q
  cases hd : ρ.getD i .non with
  | lst ds =>
    rw [hd] at q rv
    obtain ⟨l, vs, f1, rfl, hl, al, ef⟩ := Rv.ow_lst rv
    refine ⟨.inl ⟨rfl, vs, SqL.of hl⟩, ?_⟩
    refine h2.pk F0 H0 ρ σ F H fps _ rel ((RP.bind q).imp (fun dk q1 kv F1 H1 fpk x1 rvk fk => ?_) fun _ z => z.on rel.x0)
    have rel1 := rel.ext x1
    refine h F0 H0 ρ σ F1 H1 fps _ rel1 ((RP.bind q1).imp (fun d q2 y F2 H2 fpy x2 rvy fy => ?_) fun _ z => z.on rel1.x0)
    have rel2 := rel1.ext x2
    cases dk with
    | int j =>
      obtain ⟨⟨c1, c2, c3⟩, q4⟩ := RP.ite (show RP (if _ then _ else _) _ _ from q2)
      obtain ⟨fz, e1⟩ := al.fr
      subst e1
      have hl2 := x2.h.at_ (x1.h.at_ hl)
      refine ⟨l, vs, j, y, rfl, by rw [rvk.1.intOf], hl2, by rw [fz.length]; exact c3, c1, c2, ?_⟩
      have fz2 := (fz.mono x1.f).mono x2.f
      have hlm : l ∈ fps i := by rw [ef]; exact List.mem_cons_self
      refine q4 σ F2 _ (fun j => if j = i then [l] else fps j) (x1.f.trans x2.f) (rel2.mut hi hv st hlm ⟨l, vs.take j.toNat ++ [y] ++ vs.drop j.toNat, [], rfl, upd_same, (((fz2.take _).append (.cons rvy.1 .nil)).append (fz2.drop _)).al, rfl⟩ (by simp) (fun a ha => ?_) fun jj a hjj ha hz => ?_)
      · have e : a = l := by simpa using ha
        subst e
        exact rel2.ow i a hlm
      · have e : a = l := by simpa using hz
        subst e
        exact hjj (rel2.dj jj i a ha hlm)
    | _ => exact (show False from q2).elim
  | _ => rw [hd] at q; exact (show False from q).elim
theorem ds_ins (i : Nat) {x : Str} (U : Uni K E k X) (h2 : DE K E X Γ ix ti mi gi) (h : DE K E X Γ e te .fr g) (hi : Γ[i]? = some (.ow .fr) := by rfl) (hN : X.N[i]? = some x := by rfl) (hv : Vis X.env.scope x := by first | exact Or.inl rfl | exact Or.inr (Or.inl rfl) | exact Or.inr (Or.inr rfl))
    (hd : (x == ("__debug__" : Str)) = false := by decide) (hcd : (x == ("__classdict__" : Str)) = false := by decide)
    (pe : PE X (.Name x p1) (tVar i) → PA X [ix, e] (tCons ti (tCons te tNil)) → PE X (.Call (.Attribute (.Name x p1) "insert" p2) [ix, e] [] p3) (tBM X.K "list" rIns (tVar i) (tCons ti (tCons te tNil))) := by exact fun h1 h2 => pe_bm PySem.F.plainAttrs_list PySem.F.slot_list_insert PySem.F.type_list_insert mt_insert h1 h2)
    (hs : swapsWith (.Call (.Attribute (.Name x p1) "insert" p2) [ix, e] [] p3) none pos.line X.env = pure false := by rfl) (he : starEach [ix, e] X.env = (false, eval ix X.env) :: starEach [e] X.env := by rfl) (he2 : starEach [e] X.env = (false, eval e X.env) :: starEach [] X.env := by rfl) :
    DS K E X Γ (.Expr (.Call (.Attribute (.Name x p1) "insert" p2) [ix, e] [] p3) pos) (tDrop (tBM K "list" rIns (tVar i) (tCons ti (tCons te tNil)))) Γ b c r (gIns i gi g) := by
  have e0 := U.K
  subst e0
  exact ⟨ps_expr (pe (pe_var hN hv hd hcd) (pa_cons h2.pe (pa_cons h.pe pa_nil he2) he)) hs, ss_ins hi h2.se h.se⟩
/-! ### a, b = x, y with plain locals -/
def gPar2 (i j : Nat) (ga gb : List D → R D) : List D → R Fl := fun ρ => ga ρ >>= fun d1 => gb ρ >>= fun d2 => .ok (.nx ((ρ.set i d1).set j d2))
def gPar3 (i j l : Nat) (ga gb gd : List D → R D) : List D → R Fl := fun ρ => ga ρ >>= fun d1 => gb ρ >>= fun d2 => gd ρ >>= fun d3 => .ok (.nx (((ρ.set i d1).set j d2).set l d3))
variable {ta tb td : TE} {ma mb md : M} {ga gb gd : List D → R D} {a2 a3 : Expr}
theorem ss_par2 {i j : Nat} (h1 : SE K E Γ ta ma ga) (h2 : SE K E Γ tb mb gb) (hi : i < Γ.length) (hj : j < Γ.length) (hma : ma.st = true) (hmb : mb.st = true) : SS K E Γ ((Γ.set i ma).set j mb) b c r (tPar i j (tCons ta (tCons tb tNil))) (gPar2 i j ga gb) := fun F0 H0 ρ σ F H fps N rel q => by
  refine h1 F0 H0 ρ σ F H fps _ rel ((RP.bind q).imp (fun d1 q1 v F1 H1 fp1 x1 rv1 f1 => ?_) fun _ z => z.on rel.x0)
  have rel1 := rel.ext x1
  refine h2 F0 H0 ρ σ F1 H1 fps _ rel1 ((RP.bind q1).imp (fun d2 q2 w F2 H2 fp2 x2 rv2 f2 => ?_) fun _ z => z.on rel1.x0)
  refine ⟨v, w, rfl, ?_⟩
  exact q2 _ F2 H2 _ (x1.f.trans x2.f) ((rel.store x1 hi hma rv1 f1).store x2 (by rw [List.length_set]; exact hj) hmb rv2 f2)
theorem ss_par3 {i j l : Nat} (h1 : SE K E Γ ta ma ga) (h2 : SE K E Γ tb mb gb) (h3 : SE K E Γ td md gd) (hi : i < Γ.length) (hj : j < Γ.length) (hl : l < Γ.length) (hma : ma.st = true) (hmb : mb.st = true) (hmd : md.st = true) :
    SS K E Γ (((Γ.set i ma).set j mb).set l md) b c r (tPar3 i j l (tCons ta (tCons tb (tCons td tNil)))) (gPar3 i j l ga gb gd) := fun F0 H0 ρ σ F H fps N rel q => by
  refine h1 F0 H0 ρ σ F H fps _ rel ((RP.bind q).imp (fun d1 q1 v F1 H1 fp1 x1 rv1 f1 => ?_) fun _ z => z.on rel.x0)
  have rel1 := rel.ext x1
  refine h2 F0 H0 ρ σ F1 H1 fps _ rel1 ((RP.bind q1).imp (fun d2 q2 w F2 H2 fp2 x2 rv2 f2 => ?_) fun _ z => z.on rel1.x0)
  have rel2 := rel1.ext x2
  refine h3 F0 H0 ρ σ F2 H2 fps _ rel2 ((RP.bind q2).imp (fun d3 q3 u F3 H3 fp3 x3 rv3 f3 => ?_) fun _ z => z.on rel2.x0)
  refine ⟨v, w, u, rfl, ?_⟩
  exact q3 _ F3 H3 _ (x1.f.trans (x2.f.trans x3.f)) (((rel.store x1 hi hma rv1 f1).store x2 (by rw [List.length_set]; exact hj) hmb rv2 f2).store x3 (by rw [List.length_set, List.length_set]; exact hl) hmd rv3 f3)
theorem ds_par2 (i j : Nat) {x y : Str} {px py pt pt2 : Pos} {kt k2 : Nat} (U : Uni K E k X) (h1 : DE K E X Γ a ta ma ga) (h2 : DE K E X Γ a2 tb mb gb) (hx : X.N[i]? = some x := by rfl) (hy : X.N[j]? = some y := by rfl) (hij : i ≠ j := by decide)
    (lx : X.env.scope.names.lookup x = some .local := by rfl) (ly : X.env.scope.names.lookup y = some .local := by rfl) (hi : i < Γ.length := by first | decide | simp) (hj : j < Γ.length := by first | decide | simp) (hma : ma.st = true := by rfl) (hmb : mb.st = true := by rfl)
    (he : starEach [a, a2] X.env = (false, eval a X.env) :: starEach [a2] X.env := by rfl) (he2 : starEach [a2] X.env = (false, eval a2 X.env) :: starEach [] X.env := by rfl)
    (hw : swappedStores [.Tuple [.Name x px, .Name y py] kt pt] (.Tuple [a, a2] k2 pt2) X.env = pure (some [x, y]) := by rfl)
    (hs : swapsWithSole [.Tuple [.Name x px, .Name y py] kt pt] (.Tuple [a, a2] k2 pt2) pos.line X.env = pure false := by rfl) :
    DS K E X Γ (.Assign [.Tuple [.Name x px, .Name y py] kt pt] (.Tuple [a, a2] k2 pt2) pos) (tPar i j (tCons ta (tCons tb tNil))) ((Γ.set i ma).set j mb) b c r (gPar2 i j ga gb) :=
  ⟨ps_par U.calm U.nd hx hy hij lx ly (pa_cons h1.pe (pa_cons h2.pe pa_nil he2) he) hw hs, ss_par2 h1.se h2.se hi hj hma hmb⟩
end
end DL
/-! DLo: list(range(..)), tuple(range(..)). -/
namespace DL
open PySem PySem.Spec PyProof.Rows L2
variable [Tbs]
abbrev TRg : Type := L2.St → Hp → (Int → Int → Int → Hp → Prop) → Prop
section
variable {K : PySem.W.Frag} {E : XK} {X : Cx} {Γ : List M} {e a b c : Expr} {es : List Expr} {ta : TA} {ms : List M} {gr : List D → R (List D)} {p pos p2 pos2 : Pos} {k : Nat} {t : TRg}
/-- an expression that makes a range, with its step -/
def PRgC (X : Cx) (e : Expr) (t : TRg) : Prop :=
  ∀ (pins : List (Addr × Obj)) (s : Shared) (σ : L2.St) (H : Hp) (Q : Int → Int → Int → Hp → Prop), Inv X pins σ H s → t σ H Q →
    wpAny (model X.prog X.w) X.A (eval e X.env) (fun x s' => ∃ r i j l t u v H', x = .ref r ∧ IsRange s'.heap r i j l t u v ∧ Inv X pins σ H' s' ∧ Q i j l H') X.xe s
def tRgC1 (ta : TA) : TRg := fun σ H Q => ta σ H fun vs H1 => ∃ j, vs = [.int j] ∧ Q 0 j 1 H1
def tRgC2 (ta : TA) : TRg := fun σ H Q => ta σ H fun vs H1 => ∃ i j, vs = [.int i, .int j] ∧ Q i j 1 H1
def tRgC3 (ta : TA) : TRg := fun σ H Q => ta σ H fun vs H1 => ∃ i j l, vs = [.int i, .int j, .int l] ∧ l ≠ 0 ∧ l.natAbs < 1073741824 ∧ Q i j l H1
omit [Tbs] in
theorem prgc_1 (hg : Gl X "range") (hm : X.mg "range" = none) (ha : PA X [a] ta) (hs : starEach [a] X.env = (false, eval a X.env) :: starEach [] X.env) : PRgC X (.Call (.Name "range" p) [a] [] pos) (tRgC1 ta) := by
  intro pins s σ H Q I h
  refine Call_ (ld_blt I hg hm boot_range (PyProof.Rows.callWith_type1 (thn (ha.run pos pins s σ H _ I h) fun us s1 ⟨vs, H1, I1, r1, q1⟩ => ?_) hs))
  obtain ⟨j, e, q⟩ := q1
  subst e
  cases r1 with
  | cons r rr =>
    cases rr
    obtain ⟨t, rfl⟩ := r
    exact call_range_1 ⟨_, 0, j, 1, _, _, _, H1, rfl, IsRange.new _ _ _ _ _ _ _, I1.kept fun b u e => Heap.get?_push_of_some _ e, q⟩
omit [Tbs] in
theorem prgc_2 (hg : Gl X "range") (hm : X.mg "range" = none) (ha : PA X [a, b] ta) (hs : starEach [a, b] X.env = (false, eval a X.env) :: starEach [b] X.env) (hpl : (backTo pos (starEach [b] X.env)).any (·.1) = false) : PRgC X (.Call (.Name "range" p) [a, b] [] pos) (tRgC2 ta) := by
  intro pins s σ H Q I h
  refine Call_ (ld_blt I hg hm boot_range (PyProof.Rows.callWith_type1 (thn (ha.run pos pins s σ H _ I h) fun us s1 ⟨vs, H1, I1, r1, q1⟩ => ?_) hs hpl))
  obtain ⟨i, j, e, q⟩ := q1
  subst e
  cases r1 with
  | cons r rr =>
    cases rr with
    | cons r' rr =>
      cases rr
      obtain ⟨t, rfl⟩ := r
      obtain ⟨t', rfl⟩ := r'
      exact call_range_2 ⟨_, i, j, 1, _, _, _, H1, rfl, IsRange.new _ _ _ _ _ _ _, I1.kept fun b u e => Heap.get?_push_of_some _ e, q⟩
omit [Tbs] in
theorem prgc_3 (hg : Gl X "range") (hm : X.mg "range" = none) (ha : PA X [a, b, c] ta) (hs : starEach [a, b, c] X.env = (false, eval a X.env) :: starEach [b, c] X.env) (hpl : (backTo pos (starEach [b, c] X.env)).any (·.1) = false) : PRgC X (.Call (.Name "range" p) [a, b, c] [] pos) (tRgC3 ta) := by
  intro pins s σ H Q I h
  refine Call_ (ld_blt I hg hm boot_range (PyProof.Rows.callWith_type1 (thn (ha.run pos pins s σ H _ I h) fun us s1 ⟨vs, H1, I1, r1, q1⟩ => ?_) hs hpl))
  obtain ⟨i, j, l, e, c0, c1, q⟩ := q1
  subst e
  cases r1 with
  | cons r rr =>
    cases rr with
    | cons r' rr =>
      cases rr with
      | cons r'' rr =>
        cases rr
        obtain ⟨t, rfl⟩ := r
        obtain ⟨t', rfl⟩ := r'
        obtain ⟨t'', rfl⟩ := r''
        exact call_range_3 c0 ⟨_, i, j, l, _, _, _, H1, rfl, IsRange.new _ _ _ _ _ _ _, I1.kept fun b u e => Heap.get?_push_of_some _ e, q⟩ (.inl (PyProof.noPylong_small c1))
def rgC (lo c : Int) (n : Nat) : List V := (List.range n).map fun (i : Nat) => V.int (lo + (i : Int) * c)
omit [Tbs] in
theorem rgC_length (lo c : Int) (n : Nat) : (rgC lo c n).length = n := by unfold rgC; rw [List.length_map, List.length_range]
omit [Tbs] in
theorem fz_rgC {F : Hp} {lo c : Int} : ∀ (l : List Nat), FzL K F (l.map fun (i : Nat) => V.int (lo + (i : Int) * c)) (l.map fun (i : Nat) => D.int (lo + (i : Int) * c))
  | [] => .nil
  | x :: xs => .cons (.int _) (fz_rgC xs)
omit [Tbs] in
theorem vals_rgC {a c : Int} {n : Nat} {acc : Array Value} (h : ItemsOf (fun i v => ∃ t, v = .int (a + i * c) t) acc n) : Vals (rgC a c n) acc.toList := by
  have e : acc.toList.length = n := by rw [Array.length_toList]; exact h.1
  unfold rgC
  rw [← e]
  refine vals_of_get acc.toList _ fun j u hj => ?_
  obtain ⟨t, rfl⟩ := h.2 j u (by rw [← hj, Array.getElem?_toList])
  exact ⟨t, rfl⟩
def tLstRgC (t : TRg) : TE := fun σ H Q => t σ H fun i j l H1 => ∃ n, RgC i j l n ∧ n ≤ sizeLine ∧ ∀ q, H1 q = none → Q (.ref q) (upd H1 q (.lst (rgC i l n)))
def tTupRgC (t : TRg) : TE := fun σ H Q => t σ H fun i j l H1 => ∃ n, RgC i j l n ∧ n ≤ sizeLine ∧ ∀ q, H1 q = none → Q (.ref q) (upd H1 q (.tup (rgC i l n)))
omit [Tbs] in
theorem le24 {n : Nat} (h : n ≤ sizeLine) : n ≤ 2 ^ 24 := by rw [sizeLine_eq] at h; omega
theorem pe_listRgC (hc : X.calm = true) (hg : Gl X "list") (hm : X.mg "list" = none) (he : PRgC X e t) (na : starEach [e] X.env = (false, eval e X.env) :: starEach [] X.env := by rfl) : PE X (.Call (.Name "list" p) [e] [] pos) (tLstRgC t) := by
  refine ⟨fun pins s σ H Q I h => ?_⟩
  refine Call_ (ld_blt I hg hm boot_list (PyProof.Rows.callWith_type1 (args_cons (thn (he pins s σ H _ I h) fun x s1 ⟨r, a, b, c, t, u, v, H1, ex, hr, I1, n, ⟨c0, c1, c2, c3⟩, hn, q⟩ => args_nil ?_) na) na))
  subst ex
  refine call_list_range (n := n) (I1.ok.hd hc) hr c2 c3 (le24 hn) fun h' tk acc c' hk e' hi => ?_
  refine ⟨.ref s1.heap.objs.size, upd H1 s1.heap.objs.size (.lst (rgC a c n)), I1.laid hk (Nat.le_refl _) (show ObjOk X.prog X.w _ _ _ (.lst (rgC a c n)) from ⟨?_, acc.toList, c', vals_rgC hi, ?_⟩), rfl, q _ (I1.hok.fresh (Nat.le_refl _))⟩
  · rw [rgC_length]; exact hn
  · rw [Array.toArray_toList]; exact e'
theorem pe_tupRgC (hc : X.calm = true) (hg : Gl X "tuple") (hm : X.mg "tuple" = none) (he : PRgC X e t) (na : starEach [e] X.env = (false, eval e X.env) :: starEach [] X.env := by rfl) : PE X (.Call (.Name "tuple" p) [e] [] pos) (tTupRgC t) := by
  refine ⟨fun pins s σ H Q I h => ?_⟩
  refine Call_ (ld_blt I hg hm boot_tuple (PyProof.Rows.callWith_type1 (args_cons (thn (he pins s σ H _ I h) fun x s1 ⟨r, a, b, c, t, u, v, H1, ex, hr, I1, n, ⟨c0, c1, c2, c3⟩, hn, q⟩ => args_nil ?_) na) na))
  subst ex
  refine call_tuple_range (n := n) (I1.ok.hd hc) hr c2 c3 (le24 hn) fun h' tk acc hk hi => ?_
  have I2 : Inv X pins σ H1 { s1 with heap := h', toks := tk } := I1.kept hk
  refine ⟨.ref h'.objs.size, upd H1 h'.objs.size (.tup (rgC a c n)), I2.laid (t' := tk) (fun c o e => Heap.get?_push_of_some _ e) (Nat.le_refl _) (show ObjOk X.prog X.w _ _ _ (.tup (rgC a c n)) from ⟨?_, acc.toList, vals_rgC hi, ?_⟩), rfl, q _ (I2.hok.fresh (Nat.le_refl _))⟩
  · rw [rgC_length]; exact hn
  · rw [Array.toArray_toList]; exact IsTup.new _ _
/-! over data -/
def SRg (K : PySem.W.Frag) (E : XK) (Γ : List M) (t : TRg) (g : List D → R (List D)) : Prop :=
  ∀ F0 H0 ρ σ F H fps (Q : Int → Int → Int → Hp → Prop), Rel K F0 H0 Γ ρ σ F H fps →
    RP (g ρ) (fun ds => ∀ F1 H1, Ext F H F1 H1 → ∀ i j l n, RgC i j l n → n ≤ sizeLine → ds = intsFrom i l n → Q i j l H1) (XP K E F H) → t σ H Q
def DRg (K : PySem.W.Frag) (E : XK) (X : Cx) (Γ : List M) (e : Expr) (t : TRg) (g : List D → R (List D)) : Prop := PRgC X e t ∧ SRg K E Γ t g
omit [Tbs] in
theorem rgc_one {i j : Int} (h1 : -(2 ^ 62) ≤ i) (h2 : i < 2 ^ 62) (h3 : -(2 ^ 62) ≤ j) (h4 : j < 2 ^ 62) : RgC i j 1 (j - i).toNat := ⟨by decide, by decide, small_one h1 h2 h3 h4, rangeSize_nat i j⟩
theorem drg_1 (U : Uni K E k X) (h : DA K E X Γ [e] ta [.pk] gr) (hg : Gl X "range" := by rfl) (hs : starEach [e] X.env = (false, eval e X.env) :: starEach [] X.env := by rfl) : DRg K E X Γ (.Call (.Name "range" p) [e] [] pos) (tRgC1 ta) (gI dRng1 gr) :=
  ⟨prgc_1 hg U.bn.range h.pa hs, fun F0 H0 ρ σ F H fps Q rel q => by
    refine h.sa F0 H0 ρ σ F H fps _ rel ((RP.bind q).imp (fun ds hds vs F1 H1 x rv => ?_) fun _ z => z)
    cases rv with
    | @cons _ _ v d vs ds r1 rv =>
    cases rv with
    | nil =>
    cases d with
    | int j =>
      obtain ⟨⟨c1, c2⟩, hds⟩ := RP.ite (show RP (if _ then _ else _) _ _ from hds)
      obtain rfl := r1.1.intOf
      refine ⟨j, rfl, hds F1 H1 x 0 j 1 j.toNat ?_ c2 rfl⟩
      have := rgc_one (i := 0) (j := j) (by decide) (by decide) c1 (by have := sz62 c2; omega)
      rw [Int.sub_zero] at this
      exact this
    | _ => exact (show False from hds).elim⟩
theorem drg_2 (U : Uni K E k X) (h : DA K E X Γ [a, b] ta [.pk, .pk] gr) (hg : Gl X "range" := by rfl) (hs : starEach [a, b] X.env = (false, eval a X.env) :: starEach [b] X.env := by rfl) (hpl : (backTo pos (starEach [b] X.env)).any (·.1) = false := by rfl) : DRg K E X Γ (.Call (.Name "range" p) [a, b] [] pos) (tRgC2 ta) (gI dRng2 gr) :=
  ⟨prgc_2 hg U.bn.range h.pa hs hpl, fun F0 H0 ρ σ F H fps Q rel q => by
    refine h.sa F0 H0 ρ σ F H fps _ rel ((RP.bind q).imp (fun ds hds vs F1 H1 x rv => ?_) fun _ z => z)
    cases rv with
    | @cons _ _ v d vs ds r1 rv =>
    cases rv with
    | @cons _ _ v' d' vs ds r2 rv =>
    cases rv with
    | nil =>
    cases d with
    | int i =>
      cases d' with
      | int j =>
        obtain ⟨⟨⟨c1, c2, c3, c4⟩, c5⟩, hds⟩ := RP.ite (show RP (if _ then _ else _) _ _ from hds)
        obtain rfl := r1.1.intOf
        obtain rfl := r2.1.intOf
        exact ⟨i, j, rfl, hds F1 H1 x i j 1 (j - i).toNat (rgc_one c1 c2 c3 c4) c5 rfl⟩
      | _ => exact (show False from hds).elim
    | _ => exact (show False from hds).elim⟩
theorem drg_3 (U : Uni K E k X) (h : DA K E X Γ [a, b, c] ta [.pk, .pk, .pk] gr) (hg : Gl X "range" := by rfl) (hs : starEach [a, b, c] X.env = (false, eval a X.env) :: starEach [b, c] X.env := by rfl) (hpl : (backTo pos (starEach [b, c] X.env)).any (·.1) = false := by rfl) : DRg K E X Γ (.Call (.Name "range" p) [a, b, c] [] pos) (tRgC3 ta) (gI dRng3 gr) :=
  ⟨prgc_3 hg U.bn.range h.pa hs hpl, fun F0 H0 ρ σ F H fps Q rel q => by
    refine h.sa F0 H0 ρ σ F H fps _ rel ((RP.bind q).imp (fun ds hds vs F1 H1 x rv => ?_) fun _ z => z)
    cases rv with
    | @cons _ _ v d vs ds r1 rv =>
    cases rv with
    | @cons _ _ v' d' vs ds r2 rv =>
    cases rv with
    | @cons _ _ v2 d2 vs ds r3 rv =>
    cases rv with
    | nil =>
    cases d with
    | int i =>
      cases d' with
      | int j =>
        cases d2 with
        | int l =>
          obtain ⟨⟨c1, c2⟩, hds⟩ := RP.ite (show RP (if _ then _ else _) _ _ from hds)
          obtain rfl := r1.1.intOf
          obtain rfl := r2.1.intOf
          obtain rfl := r3.1.intOf
          exact ⟨i, j, l, rfl, c1.1, c1.2.1, hds F1 H1 x i j l _ c1 c2 rfl⟩
        | _ => exact (show False from hds).elim
      | _ => exact (show False from hds).elim
    | _ => exact (show False from hds).elim⟩
def gLstOf (g : List D → R (List D)) : List D → R D := fun ρ => g ρ >>= fun ds => .ok (.lst ds)
def gTupOf (g : List D → R (List D)) : List D → R D := fun ρ => g ρ >>= fun ds => .ok (.tup ds)
theorem de_listRg (U : Uni K E k X) (h : DRg K E X Γ e t gr) (hg : Gl X "list" := by rfl) (na : starEach [e] X.env = (false, eval e X.env) :: starEach [] X.env := by rfl) : DE K E X Γ (.Call (.Name "list" p) [e] [] pos) (tLstRgC t) (.ow .fr) (gLstOf gr) :=
  ⟨pe_listRgC U.calm hg U.bn.list h.1 na, fun F0 H0 ρ σ F H fps Q rel q => by
    refine h.2 F0 H0 ρ σ F H fps _ rel ((RP.bind q).imp (fun ds hds F1 H1 x i j l n rg hn e => ?_) fun _ z => z)
    subst e
    exact ⟨n, rg, hn, fun q hq => VP.newL (VP.on (show VP K H0 F H (.ow .fr) (.lst (intsFrom i l n)) Q from hds) x) x.fh hq (fz_rgC _)⟩⟩
theorem de_tupleRg (U : Uni K E k X) (h : DRg K E X Γ e t gr) (hg : Gl X "tuple" := by rfl) (na : starEach [e] X.env = (false, eval e X.env) :: starEach [] X.env := by rfl) : DE K E X Γ (.Call (.Name "tuple" p) [e] [] pos) (tTupRgC t) .fr (gTupOf gr) :=
  ⟨pe_tupRgC U.calm hg U.bn.tuple h.1 na, fun F0 H0 ρ σ F H fps Q rel q => by
    refine h.2 F0 H0 ρ σ F H fps _ rel ((RP.bind q).imp (fun ds hds F1 H1 x i j l n rg hn e => ?_) fun _ z => z)
    subst e
    exact ⟨n, rg, hn, fun q hq => VP.newT (VP.on (show VP K H0 F H .fr (.tup (intsFrom i l n)) Q from hds) x) x.fh hq (fz_rgC _)⟩⟩
end
end DL
/-! DLp: a number times a truth. -/
namespace DL
open PySem L2
variable [Tbs]
abbrev rMulB : R2 := fun x y H Q => ∃ i k, x = .int i ∧ y = .bl k ∧ Q (.int (i * PyProof.Rows.b2i k)) H
omit [Tbs] in
theorem op_mul_ib {X : Cx} : OpR X (binaryOp .Mult) rMulB := by
  intro pins s σ H x y v u Q I rx ry h
  obtain ⟨i, k, rfl, rfl, q⟩ := h
  obtain ⟨t, rfl⟩ := rx
  cases ry
  exact PySem.IntBool.mul_int_bool ⟨.int (i * PyProof.Rows.b2i k), H, I.tok _, ⟨_, rfl⟩, q⟩
def dMulB : D → D → R D
  | .int i, .bl k => .ok (.int (i * PyProof.Rows.b2i k))
  | _, _ => .bad
section
variable {K : PySem.W.Frag} {E : XK} {X : Cx} {Γ : List M} {a b : Expr} {ta tb : TE} {ma mb : M} {ga gb : List D → R D} {pos : Pos}
theorem so_mulB : SO2 K rMulB .fr dMulB := by
  intro H0 F H x y dx dy Q eF e0 hx hy q
  cases dx with
  | int i =>
    cases dy with
    | bl k =>
      obtain rfl := hx.intOf
      obtain rfl := hy.blOf
      exact ⟨i, k, rfl, rfl, VP.old q eF (.int _)⟩
    | _ => exact (show False from q).elim
  | _ => cases dy <;> exact (show False from q).elim
omit [Tbs] in
theorem dMulB_x : ∀ x y e, dMulB x y ≠ .exc e := by
  intro x y e h
  cases x <;> cases y <;> cases h
theorem de_mulB (ha : DE K E X Γ a ta ma ga) (hb : DE K E X Γ b tb mb gb) : DE K E X Γ (.BinOp a .Mult b pos) (tOp rMulB ta tb) .fr (g2 dMulB ga gb) := DE.op op_mul_ib so_mulB dMulB_x ha hb
end
end DL
/-! DLq: zip of two, of three; enumerate: over lists and tuples in any mix. -/
namespace DL
open PySem PySem.Spec PyProof.Rows L2
variable [Tbs]
/-- a list (true) or a tuple (false) -/
def SqB (k : Bool) (K : PySem.W.Frag) (H : Hp) (a : Addr) (xs : List V) : Prop := match k with | true => SqL K H a xs | false => SqT K H a xs
def HB (k : Bool) (h : Heap) (a : Addr) (its : Array Value) : Prop := match k with | true => h.IsList a its | false => h.IsTuple a its
def IB (k : Bool) (h : Heap) (it a : Addr) (i : Nat) : Prop := match k with | true => h.IsListIter it a i | false => h.IsTupleIter it a i
def oB (k : Bool) (a : Addr) : Obj := match k with | true => { cls := .type "list_iterator", data := .fields #[.ref a, .int 0 0] } | false => { cls := .type "tuple_iterator", data := .fields #[.ref a, .int 0 0] }
omit [Tbs] in
theorem draws_b (k : Bool) {prog : Program} {w : World} {A : Around} (hh : A.handled = none) (it l : Addr) (hne : l ≠ it) (its : Array Value) :
    Draws prog w A it [it, l] its.size (fun i v => its[i]? = some v) (fun i h => IB k h it l i ∧ HB k h l its) := by
  cases k with
  | true => exact .list hh it l hne its
  | false => exact .tuple hh it l hne its
omit [Tbs] in
theorem begins_b (k : Bool) (l : Addr) (its : Array Value) : Begins (.ref l) (oB k l) fun h => HB k h l its := by
  cases k with
  | true => exact begins_list l its
  | false => exact begins_tuple l its
omit [Tbs] in
theorem ib_new {k : Bool} {h : Heap} {it l : Addr} (e : h.get? it = some (oB k l)) : IB k h it l 0 := by
  cases k with
  | true => exact ⟨_, e, rfl, rfl⟩
  | false => exact ⟨_, e, rfl, rfl⟩
omit [Tbs] in
theorem IB.obj {k : Bool} {h : Heap} {it l : Addr} {i : Nat} (b : IB k h it l i) : ∃ o, h.get? it = some o ∧ ∀ v, o.data ≠ .cell v := by
  cases k with
  | true => obtain ⟨o, e, _, d⟩ := b; exact ⟨o, e, fun v q => by rw [d] at q; cases q⟩
  | false => obtain ⟨o, e, _, d⟩ := b; exact ⟨o, e, fun v q => by rw [d] at q; cases q⟩
theorem IB.on {k : Bool} {h h' : Heap} {it l : Addr} {i : Nat} (b : IB k h it l i) (e : ∀ o, h.get? it = some o → h'.get? it = some o) : IB k h' it l i := by
  cases k with
  | true => exact (show h.IsListIter it l i from b).at e
  | false => exact (show h.IsTupleIter it l i from b).at e
section
variable {X : Cx} {pins : List (Addr × Obj)} {σ : L2.St} {H : Hp} {s : Shared}
omit [Tbs] in
theorem inv_b {k : Bool} {a : Addr} {xs : List V} (I : Inv X pins σ H s) (h : SqB k X.K H a xs) : ∃ its : List Value, Vals xs its ∧ HB k s.heap a its.toArray ∧ a < s.heap.objs.size := by
  cases k with
  | true =>
    obtain ⟨its, rv, p, _⟩ := I.list h
    exact ⟨its, rv, p.isList, p.lt⟩
  | false =>
    obtain ⟨its, rv, p, _⟩ := I.tuple h
    obtain ⟨o, e, _⟩ := id p
    exact ⟨its, rv, p, Heap.lt_size e⟩
omit [Tbs] in
theorem inj_b {k : Bool} {a : Addr} {xs ys : List V} (I : Inv X pins σ H s) (h : SqB k X.K H a xs) (h' : SqB k X.K H a ys) : xs = ys := by
  cases k with
  | true => exact I.list_inj h h'
  | false => exact I.tuple_inj h h'
omit [Tbs] in
/-- one turn that makes a new tuple -/
theorem item_of {tg : Expr} {it : Addr} {ch fp wr : List Addr} {n i : Nat} {J : It} {tn : Nat → Heap → Prop} {St : Nat → Heap → Prop} {Y : Nat → Heap → Value → Heap → Prop} {E : Value → Shared → Prop} {xs : List V}
    (G : GoesN X.prog X.w X.A tg it fp wr n Y St) (hi : i < n) (st : St i s.heap) (I : Inv X pins σ H s) (hf : ∀ b ∈ ch, FpOk X pins H b) (hw : ∀ b ∈ wr, b ∈ ch) (hc : ∀ b ∈ ch, b < s.heap.objs.size) (hx : xs.length ≤ sizeLine)
    (hY : ∀ v h', Y i s.heap v h' → ∃ T its, v = .ref T ∧ s.heap.objs.size ≤ T ∧ h'.IsTuple T its ∧ Vals xs its.toList) (hJ : ∀ T, H T = none → J.yld i H (.ref T) (upd H T (.tup xs))) (ht : ∀ h', St (i + 1) h' → tn (i + 1) h') :
    wpAny (model X.prog X.w) X.A (pyNext (.ref it)) (fun r s1 => ∃ u, r = some u ∧ wpAny (model X.prog X.w) X.A (letOwnedTupleGo tg (.ref it) u) (fun _ s2 => ∃ x H', Inv X pins σ H' s2 ∧ RelV x u ∧ J.yld i H x H' ∧ tn (i + 1) s2.heap ∧ ∀ b ∈ ch, H' b = none) E s1) E s := by
  refine G.goes i s (fun u s2 => ∃ x H', Inv X pins σ H' s2 ∧ RelV x u ∧ J.yld i H x H' ∧ tn (i + 1) s2.heap ∧ ∀ b ∈ ch, H' b = none) E hi st fun v h' tk y st' hk _ => ?_
  obtain ⟨T, its, rfl, hT, hTT, rv⟩ := hY v h' y
  refine ⟨.ref T, upd H T (.tup xs), I.turnedNew (t' := tk) (ch := ch) (fun b o hb q => hk b o (fun z => hb (hw b z)) q) hf hT ⟨hx, its.toList, rv, ?_⟩, rfl, hJ T (I.hok.fresh hT), ht _ st', fun b hb => ?_⟩
  · rw [Array.toArray_toList]; exact hTT
  · rw [upd_ne (Nat.ne_of_lt (Nat.lt_of_lt_of_le (hc b hb) hT))]
    exact (hf b hb).1
end
omit [Tbs] in
theorem lt2 {h : Heap} {b : Addr} {o : Obj} (e : h.get? b = some o) : b < h.objs.size := Heap.lt_size e

/-! ### zip of two -/
def ItB2 (K : PySem.W.Frag) (k1 k2 : Bool) (a b : Addr) : It where
  go i H := ∃ (xs ys : List V) (x y : V), SqB k1 K H a xs ∧ SqB k2 K H b ys ∧ xs[i]? = some x ∧ ys[i]? = some y
  yld i H v H' := ∃ T x y, v = .ref T ∧ H T = none ∧ H' = upd H T (.tup [x, y]) ∧ (∀ xs, SqB k1 K H a xs → xs[i]? = some x) ∧ ∀ ys, SqB k2 K H b ys → ys[i]? = some y
  stop i H := ∃ xs ys : List V, SqB k1 K H a xs ∧ SqB k2 K H b ys ∧ i = min xs.length ys.length
def StB2 (k1 k2 : Bool) (z TI TO i1 i2 a b : Addr) (i : Nat) (h : Heap) : Prop := IsZip h z TI TO .none ∧ IsTupOf2 h TI (.ref i1) (.ref i2) ∧ (∃ u v, IsTupOf2 h TO u v) ∧ IB k1 h i1 a i ∧ IB k2 h i2 b i
theorem turn_b2 {P : Program} {w : World} {K : PySem.W.Frag} {elts : List Expr} {kk : Nat} {tpos : Pos} {k1 k2 : Bool} {a b z TI TO i1 i2 : Addr} (D : ZipSep2 z TI TO i1 i2 [i1, a] [i2, b]) (n1 : a ≠ i1) (n2 : b ≠ i2) :
    Turn P w K (.Tuple elts kk tpos) (ItB2 K k1 k2 a b) [z, TI, TO, i1, i2] z (StB2 k1 k2 z TI TO i1 i2 a b) where
  mem := by simp
  obj := fun i h ⟨hz, hTI, ⟨u, v, hTO⟩, h1, h2⟩ c hc => by
    simp only [List.mem_cons, List.not_mem_nil, or_false] at hc
    rcases hc with q | q | q | q | q <;> subst q
    · exact ⟨_, hz, fun v q => nomatch q⟩
    · exact ⟨_, hTI, fun v q => nomatch q⟩
    · exact ⟨_, hTO, fun v q => nomatch q⟩
    · exact h1.obj
    · exact h2.obj
  keep := fun i h h' ⟨hz, hTI, ⟨u, v, hTO⟩, h1, h2⟩ k => ⟨k z (by simp) _ hz, k TI (by simp) _ hTI, ⟨u, v, k TO (by simp) _ hTO⟩, h1.on fun o q => k i1 (by simp) o q, h2.on fun o q => k i2 (by simp) o q⟩
  item := by
    rintro X rfl rfl rfl hc i pins s σ H E I hf ⟨hz, hTI, ⟨u0, v0, hTO⟩, h1, h2⟩ ⟨xs, ys, x, y, qx, qy, hx, hy⟩
    obtain ⟨its, rv, p, _⟩ := inv_b I qx
    obtain ⟨its2, rv2, p2, _⟩ := inv_b I qy
    obtain ⟨u, hu, ru⟩ := rv.get hx
    obtain ⟨u2, hu2, ru2⟩ := rv2.get hy
    have hh := I.ok.hd hc
    have hi : i < min its.toArray.size its2.toArray.size := by
      have e1 := (List.getElem?_eq_some_iff.mp hu).1
      have e2 := (List.getElem?_eq_some_iff.mp hu2).1
      rw [List.size_toArray, List.size_toArray]
      omega
    refine item_of (xs := [x, y]) (GoesN.zip2 D (draws_b k1 (show X.A.in1.handled = none from hh) i1 a n1 its.toArray) (draws_b k2 (show X.A.in1.handled = none from hh) i2 b n2 its2.toArray)) hi ⟨hz, hTI, ⟨_, _, hTO⟩, ⟨h1, p⟩, ⟨h2, p2⟩⟩ I hf
      (fun c hcm => by simp only [List.mem_cons, List.not_mem_nil, or_false] at hcm ⊢; rcases hcm with q | q | q | q <;> simp [q]) (fun c hcm => ?_) (by show 2 ≤ sizeLine; decide) ?_ ?_ ?_
    · simp only [List.mem_cons, List.not_mem_nil, or_false] at hcm
      rcases hcm with q | q | q | q | q <;> subst q
      · exact lt2 hz
      · exact lt2 hTI
      · exact lt2 hTO
      · obtain ⟨_, e, _⟩ := h1.obj; exact lt2 e
      · obtain ⟨_, e, _⟩ := h2.obj; exact lt2 e
    · rintro v h' ⟨T, w1, w2, rfl, hT, e1, e2, hTT⟩
      refine ⟨T, _, rfl, hT, hTT, ?_⟩
      rw [List.getElem?_toArray, hu] at e1
      rw [List.getElem?_toArray, hu2] at e2
      cases e1
      cases e2
      exact .cons ru (.cons ru2 .nil)
    · exact fun T hT => ⟨T, x, y, rfl, hT, rfl, fun l hl => by rw [inj_b I hl qx]; exact hx, fun l hl => by rw [inj_b I hl qy]; exact hy⟩
    · exact fun h' ⟨q1, q2, q3, q4, q5⟩ => ⟨q1, q2, q3, q4.1, q5.1⟩
  done := by
    rintro X rfl rfl rfl hc i pins s σ H E I hf ⟨hz, hTI, ⟨u0, v0, hTO⟩, h1, h2⟩ ⟨xs, ys, qx, qy, e⟩
    obtain ⟨its, rv, p, _⟩ := inv_b I qx
    obtain ⟨its2, rv2, p2, _⟩ := inv_b I qy
    have hh := I.ok.hd hc
    have l1 := rv.length
    have l2 := rv2.length
    have e' : i = min its.toArray.size its2.toArray.size := by rw [List.size_toArray, List.size_toArray]; omega
    subst e'
    refine (GoesN.zip2 (elts := elts) (x1 := kk) (pos := tpos) D (draws_b k1 (show X.A.in1.handled = none from hh) i1 a n1 its.toArray) (draws_b k2 (show X.A.in1.handled = none from hh) i2 b n2 its2.toArray)).stops s (fun s1 => Inv X pins σ H s1) E ⟨hz, hTI, ⟨_, _, hTO⟩, ⟨h1, p⟩, ⟨h2, p2⟩⟩ fun h' tk hk _ => ?_
    exact I.turnedL (t' := tk) (ch := [z, TI, TO, i1, i2]) (fun c o hb q => hk c o (fun z' => hb (by simp only [List.mem_cons, List.not_mem_nil, or_false] at z' ⊢; rcases z' with q | q | q | q <;> simp [q])) q) hf
  self := fun A i s Q E st h => wpAny_pyIter_zip st.1 h
def iZipB (K : PySem.W.Frag) (ta : TA) : TI := fun σ H Rr => ta σ H fun vs H1 => ∃ k1 k2 a b xs ys, vs = [.ref a, .ref b] ∧ SqB k1 K H1 a xs ∧ SqB k2 K H1 b ys ∧ Rr (ItB2 K k1 k2 a b) H1
omit [Tbs] in
theorem fp_new {X : Cx} {pins : List (Addr × Obj)} {σ : L2.St} {H : Hp} {s : Shared} (I : Inv X pins σ H s) (l : List Addr) (h : ∀ c ∈ l, s.heap.objs.size ≤ c) : ∀ c ∈ l, FpOk X pins H c := fun c hc => I.fpOk (h c hc) (I.hok.fresh (h c hc))
section
variable {K : PySem.W.Frag} {E : XK} {X : Cx} {Γ : List M} {e e2 e3 tge a b c : Expr} {t tb t3 : TE} {ta : TA} {m ma mb : M} {g ga gb gc' : List D → R D} {p pos tpos : Pos} {elts : List Expr} {kk k : Nat}
theorem pi_zipB (hg : Gl X "zip") (hm : X.mg "zip" = none) (ha : PA X [e, e2] ta)
    (hs : starEach [e, e2] X.env = (false, eval e X.env) :: starEach [e2] X.env := by rfl) (hpl : (backTo pos (starEach [e2] X.env)).any (·.1) = false := by rfl) :
    PI X (.Tuple elts kk tpos) (.Call (.Name "zip" p) [e, e2] [] pos) (iZipB X.K ta) := by
  refine ⟨fun pins s σ H Rr I h => ?_⟩
  refine Call_ (ld_blt I hg hm PyProof.Rows.boot_zip (PyProof.Rows.callWith_type1 (thn (ha.run pos pins s σ H _ I h) fun us s1 ⟨vs, H1, I1, r1, q1⟩ => ?_) hs hpl))
  obtain ⟨k1, k2, a, b, xs, ys, rfl, qx, qy, q⟩ := q1
  obtain ⟨u, rest, rfl, ru, rr⟩ : ∃ u rest, us = u :: rest ∧ RelV (.ref a) u ∧ Vals [.ref b] rest := by cases r1 with | cons r rr => exact ⟨_, _, rfl, r, rr⟩
  obtain ⟨u2, rfl, ru2⟩ := vals1 rr
  cases ru
  cases ru2
  obtain ⟨its, rv, p1, z1⟩ := inv_b I1 qx
  obtain ⟨its2, rv2, p2, z2⟩ := inv_b I1 qy
  refine zip_begins2 (begins_b k1 a its.toArray) (begins_b k2 b its2.toArray) p1 p2 fun h' hz hTI hTO o1 o2 hsz hk => wpAny_pyIter_zip hz ?_
  have hne : ∀ {x : Nat}, x < s1.heap.objs.size → ∀ j, x ≠ s1.heap.objs.size + j := fun h j => by omega
  refine ⟨_, _, _, _, H1, rfl, I1.kept (t' := s1.toks) hk, turn_b2 (zip_sep2 (fp1 := [a]) (fp2 := [b]) (by simpa using z1) (by simpa using z2)) (hne z1 0) (hne z2 1), ⟨hz, hTI, ⟨_, _, hTO⟩, ib_new o1, ib_new o2⟩, fp_new I1 _ (fun c hcm => ?_), q⟩
  simp only [List.mem_cons, List.not_mem_nil, or_false] at hcm
  rcases hcm with q | q | q | q | q <;> subst q <;> first | exact Nat.le_add_right _ _ | exact Nat.le_refl _
omit [Tbs] in
theorem walk_b2 {k1 k2 : Bool} {a b : Addr} {xs ys : List V} : Walk (ItB2 K k1 k2 a b) (min xs.length ys.length) (fun H => SqB k1 K H a xs ∧ SqB k2 K H b ys) (fun i H v H' => ∃ T x y, v = .ref T ∧ H T = none ∧ H' = upd H T (.tup [x, y]) ∧ xs[i]? = some x ∧ ys[i]? = some y) := by
  refine ⟨fun i H hi q => ?_, fun H q => ⟨xs, ys, q.1, q.2, rfl⟩, fun i H v H' _ q ⟨T, x, y, h1, h2, h3, h4, h5⟩ => ⟨T, x, y, h1, h2, h3, h4 xs q.1, h5 ys q.2⟩⟩
  have h1 : i < xs.length := by omega
  have h2 : i < ys.length := by omega
  exact ⟨xs, ys, xs[i], ys[i], q.1, q.2, by simp [h1], by simp [h2]⟩
omit [Tbs] in
/-- frozen: a list or a tuple of such data -/
theorem Fz.sqb {F H : Hp} {v : V} {d : D} {ds : List D} (h : Fz K F v d) (hd : dIter d = .ok ds) (hs : ∀ z, d ≠ .str z) : ∃ k a vs, v = .ref a ∧ SqB k K F a vs ∧ FzL K F vs ds := by
  cases d with
  | lst es =>
    cases hd
    obtain ⟨a, vs, rfl, h1, h2⟩ := h.listOf
    exact ⟨true, a, vs, rfl, h1, h2⟩
  | tup es =>
    cases hd
    obtain ⟨a, vs, rfl, h1, h2⟩ := h.tupOf
    exact ⟨false, a, vs, rfl, h1, h2⟩
  | str z => exact absurd rfl (hs z)
  | _ => cases hd
omit [Tbs] in
theorem SqB.same {k : Bool} {H H' : Hp} {a : Addr} {xs : List V} (s : Same H H') (h : SqB k K H a xs) : SqB k K H' a xs := by
  cases k with
  | true => exact s.seq h
  | false => exact Same.sqt s h
/-- items of what is zipped: lists, tuples -/
def dSqs : D → R (List D)
  | .lst ds => .ok ds
  | .tup ds => .ok ds
  | _ => .bad
def zip2D (xs ys : List D) : List D := (xs.zip ys).map fun q => .tup [q.1, q.2]
def gZip (ga gb : List D → R D) : List D → R (List D) := fun ρ => ga ρ >>= fun x => gb ρ >>= fun y => dSqs x >>= fun xs => dSqs y >>= fun ys => if xs.length ≤ sizeLine then .ok (zip2D xs ys) else .bad
omit [Tbs] in
theorem seq_ok {F : Hp} {v : V} {d : D} {α : Type} {f : List D → R α} {P : α → Prop} {Xx : Ex → Prop} (h : Fz K F v d) (q : RP (dSqs d >>= f) P Xx) : ∃ k a vs ds, v = .ref a ∧ SqB k K F a vs ∧ FzL K F vs ds ∧ RP (f ds) P Xx := by
  cases d with
  | lst es =>
    obtain ⟨a, vs, rfl, h1, h2⟩ := h.listOf
    exact ⟨true, a, vs, es, rfl, h1, h2, q⟩
  | tup es =>
    obtain ⟨a, vs, rfl, h1, h2⟩ := h.tupOf
    exact ⟨false, a, vs, es, rfl, h1, h2, q⟩
  | _ => exact (show False from q).elim
theorem yld_b2 {F H0 : Hp} {k1 k2 : Bool} {a b : Addr} {xs ys : List V} {ds es : List D} (h1 : SqB k1 K F a xs) (h2 : SqB k2 K F b ys) (f1 : FzL K F xs ds) (f2 : FzL K F ys es) : Yld K (ItB2 K k1 k2 a b) F H0 .fr (zip2D ds es) := by
  have w := walk_b2 (K := K) (k1 := k1) (k2 := k2) (a := a) (b := b) (xs := xs) (ys := ys)
  have hl : min xs.length ys.length = (zip2D ds es).length := by unfold zip2D; rw [List.length_map, List.length_zip, f1.length, f2.length]
  rw [hl] at w
  refine Yld.mk' w (fun H' s _ => ⟨h1.same s, h2.same s⟩) fun i H' x H'' hi s1 s2 ⟨T, x1, y1, ex, hT, eH, hx, hy⟩ F' s3 s4 => ?_
  subst ex
  subst eH
  obtain ⟨d, hd, fz⟩ := f1.getV hx
  obtain ⟨d2, hd2, fz2⟩ := f2.getV hy
  have xl : Ext F' H' (upd F' T (.tup [x1, y1])) (upd H' T (.tup [x1, y1])) := Ext.laid s4 hT
  refine ⟨_, .tup [d, d2], xl, ?_, .tup (SqT.of upd_same) (.cons ((fz.mono s3).mono xl.f) (.cons ((fz2.mono s3).mono xl.f) .nil)), rfl⟩
  unfold zip2D
  have e : (ds.zip es)[i]? = some (d, d2) := List.getElem?_zip_eq_some.mpr ⟨hd, hd2⟩
  rw [List.getElem?_map, e]
  rfl
theorem di_zip (U : Uni K E k X) (h1 : DE K E X Γ a t .fr ga) (h2 : DE K E X Γ b tb .fr gb) (hg : Gl X "zip" := by rfl) (hs : starEach [a, b] X.env = (false, eval a X.env) :: starEach [b] X.env := by rfl) (hs2 : starEach [b] X.env = (false, eval b X.env) :: starEach [] X.env := by rfl) (hpl : (backTo pos (starEach [b] X.env)).any (·.1) = false := by rfl) :
    DI K E X Γ (.Tuple elts kk tpos) (.Call (.Name "zip" p) [a, b] [] pos) (iZipB K (tCons t (tCons tb tNil))) .fr (gZip ga gb) := by
  have e0 := U.K
  subst e0
  refine ⟨pi_zipB hg U.bn.zip (pa_cons h1.pe (pa_cons h2.pe pa_nil hs2) hs) hs hpl, fun F0 H0 ρ σ F H fps Rr rel q => ?_⟩
  refine h1.se F0 H0 ρ σ F H fps _ rel ((RP.bind q).imp (fun d hd v F1 H1 fp x rv _ => ?_) fun _ z => z)
  refine h2.se F0 H0 ρ σ F1 H1 fps _ (rel.ext x) ((RP.bind hd).imp (fun d' hd' v' F2 H2 fp' x2 rv' _ => ?_) fun _ z => z.on x)
  obtain ⟨k1, a1, vs, ds, rfl, s1, f1, q1⟩ := seq_ok (rv.1.mono x2.f) hd'
  obtain ⟨k2, a2, ws, es, rfl, s2, f2, q2⟩ := seq_ok rv'.1 q1
  obtain ⟨c, q2⟩ := RP.ite q2
  refine ⟨k1, k2, a1, a2, vs, ws, rfl, s1.same x2.fh, s2.same x2.fh, q2 _ F2 H2 (x.trans x2) (yld_b2 s1 s2 f1 f2) ?_⟩
  unfold zip2D
  rw [List.length_map, List.length_zip]
  omega
end

/-! ### zip of three -/
def ItB3 (K : PySem.W.Frag) (k1 k2 k3 : Bool) (a b c : Addr) : It where
  go i H := ∃ (xs ys zs : List V) (x y z : V), SqB k1 K H a xs ∧ SqB k2 K H b ys ∧ SqB k3 K H c zs ∧ xs[i]? = some x ∧ ys[i]? = some y ∧ zs[i]? = some z
  yld i H v H' := ∃ T x y z, v = .ref T ∧ H T = none ∧ H' = upd H T (.tup [x, y, z]) ∧ (∀ xs, SqB k1 K H a xs → xs[i]? = some x) ∧ (∀ ys, SqB k2 K H b ys → ys[i]? = some y) ∧ ∀ zs, SqB k3 K H c zs → zs[i]? = some z
  stop i H := ∃ xs ys zs : List V, SqB k1 K H a xs ∧ SqB k2 K H b ys ∧ SqB k3 K H c zs ∧ i = min (min xs.length ys.length) zs.length
def StB3 (k1 k2 k3 : Bool) (z TI TO i1 i2 i3 a b c : Addr) (i : Nat) (h : Heap) : Prop := IsZip h z TI TO .none ∧ IsTupOf3 h TI (.ref i1) (.ref i2) (.ref i3) ∧ (∃ u v x, IsTupOf3 h TO u v x) ∧ IB k1 h i1 a i ∧ IB k2 h i2 b i ∧ IB k3 h i3 c i
theorem turn_b3 {P : Program} {w : World} {K : PySem.W.Frag} {elts : List Expr} {kk : Nat} {tpos : Pos} {k1 k2 k3 : Bool} {a b c0 z TI TO i1 i2 i3 : Addr} (D : ZipSep3 z TI TO i1 i2 i3 [i1, a] [i2, b] [i3, c0]) (n1 : a ≠ i1) (n2 : b ≠ i2) (n3 : c0 ≠ i3) :
    Turn P w K (.Tuple elts kk tpos) (ItB3 K k1 k2 k3 a b c0) [z, TI, TO, i1, i2, i3] z (StB3 k1 k2 k3 z TI TO i1 i2 i3 a b c0) where
  mem := by simp
  obj := fun i h ⟨hz, hTI, ⟨u, v, x, hTO⟩, h1, h2, h3⟩ c hc => by
    simp only [List.mem_cons, List.not_mem_nil, or_false] at hc
    rcases hc with q | q | q | q | q | q <;> subst q
    · exact ⟨_, hz, fun v q => nomatch q⟩
    · exact ⟨_, hTI, fun v q => nomatch q⟩
    · exact ⟨_, hTO, fun v q => nomatch q⟩
    · exact h1.obj
    · exact h2.obj
    · exact h3.obj
  keep := fun i h h' ⟨hz, hTI, ⟨u, v, x, hTO⟩, h1, h2, h3⟩ k => ⟨k z (by simp) _ hz, k TI (by simp) _ hTI, ⟨u, v, x, k TO (by simp) _ hTO⟩, h1.on fun o q => k i1 (by simp) o q, h2.on fun o q => k i2 (by simp) o q, h3.on fun o q => k i3 (by simp) o q⟩
  item := by
    rintro X rfl rfl rfl hc i pins s σ H E I hf ⟨hz, hTI, ⟨u0, v0, x0, hTO⟩, h1, h2, h3⟩ ⟨xs, ys, zs, x, y, z', qx, qy, qz, hx, hy, hz'⟩
    obtain ⟨its, rv, p, _⟩ := inv_b I qx
    obtain ⟨its2, rv2, p2, _⟩ := inv_b I qy
    obtain ⟨its3, rv3, p3, _⟩ := inv_b I qz
    obtain ⟨u, hu, ru⟩ := rv.get hx
    obtain ⟨u2, hu2, ru2⟩ := rv2.get hy
    obtain ⟨u3, hu3, ru3⟩ := rv3.get hz'
    have hh := I.ok.hd hc
    have hi : i < min (min its.toArray.size its2.toArray.size) its3.toArray.size := by
      have e1 := (List.getElem?_eq_some_iff.mp hu).1
      have e2 := (List.getElem?_eq_some_iff.mp hu2).1
      have e3 := (List.getElem?_eq_some_iff.mp hu3).1
      rw [List.size_toArray, List.size_toArray, List.size_toArray]
      omega
    refine item_of (xs := [x, y, z']) (GoesN.zip3 D (draws_b k1 (show X.A.in1.handled = none from hh) i1 a n1 its.toArray) (draws_b k2 (show X.A.in1.handled = none from hh) i2 b n2 its2.toArray) (draws_b k3 (show X.A.in1.handled = none from hh) i3 c0 n3 its3.toArray)) hi ⟨hz, hTI, ⟨_, _, _, hTO⟩, ⟨h1, p⟩, ⟨h2, p2⟩, ⟨h3, p3⟩⟩ I hf
      (fun c hcm => by simp only [List.mem_cons, List.not_mem_nil, or_false] at hcm ⊢; rcases hcm with q | q | q | q | q <;> simp [q]) (fun c hcm => ?_) (by show 3 ≤ sizeLine; decide) ?_ ?_ ?_
    · simp only [List.mem_cons, List.not_mem_nil, or_false] at hcm
      rcases hcm with q | q | q | q | q | q <;> subst q
      · exact lt2 hz
      · exact lt2 hTI
      · exact lt2 hTO
      · obtain ⟨_, e, _⟩ := h1.obj; exact lt2 e
      · obtain ⟨_, e, _⟩ := h2.obj; exact lt2 e
      · obtain ⟨_, e, _⟩ := h3.obj; exact lt2 e
    · rintro v h' ⟨T, w1, w2, w3, rfl, hT, e1, e2, e3, hTT⟩
      refine ⟨T, _, rfl, hT, hTT, ?_⟩
      rw [List.getElem?_toArray, hu] at e1
      rw [List.getElem?_toArray, hu2] at e2
      rw [List.getElem?_toArray, hu3] at e3
      cases e1
      cases e2
      cases e3
      exact .cons ru (.cons ru2 (.cons ru3 .nil))
    · exact fun T hT => ⟨T, x, y, z', rfl, hT, rfl, fun l hl => by rw [inj_b I hl qx]; exact hx, fun l hl => by rw [inj_b I hl qy]; exact hy, fun l hl => by rw [inj_b I hl qz]; exact hz'⟩
    · exact fun h' ⟨q1, q2, q3, q4, q5, q6⟩ => ⟨q1, q2, q3, q4.1, q5.1, q6.1⟩
  done := by
    rintro X rfl rfl rfl hc i pins s σ H E I hf ⟨hz, hTI, ⟨u0, v0, x0, hTO⟩, h1, h2, h3⟩ ⟨xs, ys, zs, qx, qy, qz, e⟩
    obtain ⟨its, rv, p, _⟩ := inv_b I qx
    obtain ⟨its2, rv2, p2, _⟩ := inv_b I qy
    obtain ⟨its3, rv3, p3, _⟩ := inv_b I qz
    have hh := I.ok.hd hc
    have l1 := rv.length
    have l2 := rv2.length
    have l3 := rv3.length
    have e' : i = min (min its.toArray.size its2.toArray.size) its3.toArray.size := by rw [List.size_toArray, List.size_toArray, List.size_toArray]; omega
    subst e'
    refine (GoesN.zip3 (elts := elts) (x1 := kk) (pos := tpos) D (draws_b k1 (show X.A.in1.handled = none from hh) i1 a n1 its.toArray) (draws_b k2 (show X.A.in1.handled = none from hh) i2 b n2 its2.toArray) (draws_b k3 (show X.A.in1.handled = none from hh) i3 c0 n3 its3.toArray)).stops s (fun s1 => Inv X pins σ H s1) E ⟨hz, hTI, ⟨_, _, _, hTO⟩, ⟨h1, p⟩, ⟨h2, p2⟩, ⟨h3, p3⟩⟩ fun h' tk hk _ => ?_
    exact I.turnedL (t' := tk) (ch := [z, TI, TO, i1, i2, i3]) (fun c o hb q => hk c o (fun z' => hb (by simp only [List.mem_cons, List.not_mem_nil, or_false] at z' ⊢; rcases z' with q | q | q | q | q <;> simp [q])) q) hf
  self := fun A i s Q E st h => wpAny_pyIter_zip st.1 h
def iZipB3 (K : PySem.W.Frag) (ta : TA) : TI := fun σ H Rr => ta σ H fun vs H1 => ∃ k1 k2 k3 a b c xs ys zs, vs = [.ref a, .ref b, .ref c] ∧ SqB k1 K H1 a xs ∧ SqB k2 K H1 b ys ∧ SqB k3 K H1 c zs ∧ Rr (ItB3 K k1 k2 k3 a b c) H1
section
variable {K : PySem.W.Frag} {E : XK} {X : Cx} {Γ : List M} {e e2 e3 tge a b c : Expr} {t tb t3 : TE} {ta : TA} {m ma mb : M} {g ga gb gc' : List D → R D} {p pos tpos : Pos} {elts : List Expr} {kk k : Nat}
theorem pi_zipB3 (hg : Gl X "zip") (hm : X.mg "zip" = none) (ha : PA X [e, e2, e3] ta)
    (hs : starEach [e, e2, e3] X.env = (false, eval e X.env) :: starEach [e2, e3] X.env := by rfl) (hpl : (backTo pos (starEach [e2, e3] X.env)).any (·.1) = false := by rfl) :
    PI X (.Tuple elts kk tpos) (.Call (.Name "zip" p) [e, e2, e3] [] pos) (iZipB3 X.K ta) := by
  refine ⟨fun pins s σ H Rr I h => ?_⟩
  refine Call_ (ld_blt I hg hm PyProof.Rows.boot_zip (PyProof.Rows.callWith_type1 (thn (ha.run pos pins s σ H _ I h) fun us s1 ⟨vs, H1, I1, r1, q1⟩ => ?_) hs hpl))
  obtain ⟨k1, k2, k3, a, b, c, xs, ys, zs, rfl, qx, qy, qz, q⟩ := q1
  obtain ⟨u, rest, rfl, ru, rr⟩ : ∃ u rest, us = u :: rest ∧ RelV (.ref a) u ∧ Vals [.ref b, .ref c] rest := by cases r1 with | cons r rr => exact ⟨_, _, rfl, r, rr⟩
  obtain ⟨u2, rest2, rfl, ru2, rr2⟩ : ∃ u rest', rest = u :: rest' ∧ RelV (.ref b) u ∧ Vals [.ref c] rest' := by cases rr with | cons r rr => exact ⟨_, _, rfl, r, rr⟩
  obtain ⟨u3, rfl, ru3⟩ := vals1 rr2
  cases ru
  cases ru2
  cases ru3
  obtain ⟨its, rv, p1, z1⟩ := inv_b I1 qx
  obtain ⟨its2, rv2, p2, z2⟩ := inv_b I1 qy
  obtain ⟨its3, rv3, p3, z3⟩ := inv_b I1 qz
  refine zip_begins3 (begins_b k1 a its.toArray) (begins_b k2 b its2.toArray) (begins_b k3 c its3.toArray) p1 p2 p3 fun h' hz hTI hTO o1 o2 o3 hsz hk => wpAny_pyIter_zip hz ?_
  have hne : ∀ {x : Nat}, x < s1.heap.objs.size → ∀ j, x ≠ s1.heap.objs.size + j := fun h j => by omega
  refine ⟨_, _, _, _, H1, rfl, I1.kept (t' := s1.toks) hk, turn_b3 (zip_sep3 (fp1 := [a]) (fp2 := [b]) (fp3 := [c]) (by simpa using z1) (by simpa using z2) (by simpa using z3)) (hne z1 0) (hne z2 1) (hne z3 2), ⟨hz, hTI, ⟨_, _, _, hTO⟩, ib_new o1, ib_new o2, ib_new o3⟩, fp_new I1 _ (fun c hcm => ?_), q⟩
  simp only [List.mem_cons, List.not_mem_nil, or_false] at hcm
  rcases hcm with q | q | q | q | q | q <;> subst q <;> first | exact Nat.le_add_right _ _ | exact Nat.le_refl _
omit [Tbs] in
theorem walk_b3 {k1 k2 k3 : Bool} {a b c : Addr} {xs ys zs : List V} : Walk (ItB3 K k1 k2 k3 a b c) (min (min xs.length ys.length) zs.length) (fun H => SqB k1 K H a xs ∧ SqB k2 K H b ys ∧ SqB k3 K H c zs) (fun i H v H' => ∃ T x y z, v = .ref T ∧ H T = none ∧ H' = upd H T (.tup [x, y, z]) ∧ xs[i]? = some x ∧ ys[i]? = some y ∧ zs[i]? = some z) := by
  refine ⟨fun i H hi q => ?_, fun H q => ⟨xs, ys, zs, q.1, q.2.1, q.2.2, rfl⟩, fun i H v H' _ q ⟨T, x, y, z, h1, h2, h3, h4, h5, h6⟩ => ⟨T, x, y, z, h1, h2, h3, h4 xs q.1, h5 ys q.2.1, h6 zs q.2.2⟩⟩
  have h1 : i < xs.length := by omega
  have h2 : i < ys.length := by omega
  have h3 : i < zs.length := by omega
  exact ⟨xs, ys, zs, xs[i], ys[i], zs[i], q.1, q.2.1, q.2.2, by simp [h1], by simp [h2], by simp [h3]⟩
def zip3D : List D → List D → List D → List D
  | x :: xs, y :: ys, z :: zs => .tup [x, y, z] :: zip3D xs ys zs
  | _, _, _ => []
omit [Tbs] in
theorem zip3D_len : ∀ xs ys zs : List D, (zip3D xs ys zs).length = min (min xs.length ys.length) zs.length
  | x :: xs, y :: ys, z :: zs => by unfold zip3D; simp only [List.length_cons, zip3D_len xs ys zs]; omega
  | [], _, _ => by unfold zip3D; simp
  | _ :: _, [], _ => by unfold zip3D; simp
  | _ :: _, _ :: _, [] => by unfold zip3D; simp
omit [Tbs] in
theorem zip3D_get : ∀ {xs ys zs : List D} {i : Nat} {x y z : D}, xs[i]? = some x → ys[i]? = some y → zs[i]? = some z → (zip3D xs ys zs)[i]? = some (.tup [x, y, z])
  | x :: xs, y :: ys, z :: zs, 0, _, _, _, h1, h2, h3 => by simp at h1 h2 h3; subst h1 h2 h3; rfl
  | x :: xs, y :: ys, z :: zs, i + 1, _, _, _, h1, h2, h3 => by
    have := zip3D_get (xs := xs) (ys := ys) (zs := zs) (i := i) (by simpa using h1) (by simpa using h2) (by simpa using h3)
    unfold zip3D
    simpa using this
  | [], _, _, _, _, _, _, h1, _, _ => by simp at h1
  | _ :: _, [], _, _, _, _, _, _, h2, _ => by simp at h2
  | _ :: _, _ :: _, [], _, _, _, _, _, _, h3 => by simp at h3
def gZip3 (ga gb gc' : List D → R D) : List D → R (List D) := fun ρ => ga ρ >>= fun x => gb ρ >>= fun y => gc' ρ >>= fun z => dSqs x >>= fun xs => dSqs y >>= fun ys => dSqs z >>= fun zs => if xs.length ≤ sizeLine then .ok (zip3D xs ys zs) else .bad
theorem yld_b3 {F H0 : Hp} {k1 k2 k3 : Bool} {a b c : Addr} {xs ys zs : List V} {ds es gs : List D} (h1 : SqB k1 K F a xs) (h2 : SqB k2 K F b ys) (h3 : SqB k3 K F c zs) (f1 : FzL K F xs ds) (f2 : FzL K F ys es) (f3 : FzL K F zs gs) : Yld K (ItB3 K k1 k2 k3 a b c) F H0 .fr (zip3D ds es gs) := by
  have w := walk_b3 (K := K) (k1 := k1) (k2 := k2) (k3 := k3) (a := a) (b := b) (c := c) (xs := xs) (ys := ys) (zs := zs)
  have hl : min (min xs.length ys.length) zs.length = (zip3D ds es gs).length := by rw [zip3D_len, f1.length, f2.length, f3.length]
  rw [hl] at w
  refine Yld.mk' w (fun H' s _ => ⟨h1.same s, h2.same s, h3.same s⟩) fun i H' x H'' hi s1 s2 ⟨T, x1, y1, z1, ex, hT, eH, hx, hy, hz⟩ F' s3 s4 => ?_
  subst ex
  subst eH
  obtain ⟨d, hd, fz⟩ := f1.getV hx
  obtain ⟨d2, hd2, fz2⟩ := f2.getV hy
  obtain ⟨d3, hd3, fz3⟩ := f3.getV hz
  have xl : Ext F' H' (upd F' T (.tup [x1, y1, z1])) (upd H' T (.tup [x1, y1, z1])) := Ext.laid s4 hT
  exact ⟨_, .tup [d, d2, d3], xl, zip3D_get hd hd2 hd3, .tup (SqT.of upd_same) (.cons ((fz.mono s3).mono xl.f) (.cons ((fz2.mono s3).mono xl.f) (.cons ((fz3.mono s3).mono xl.f) .nil))), rfl⟩
theorem di_zip3 (U : Uni K E k X) (h1 : DE K E X Γ a t .fr ga) (h2 : DE K E X Γ b tb .fr gb) (h3 : DE K E X Γ c t3 .fr gc') (hg : Gl X "zip" := by rfl) (hs : starEach [a, b, c] X.env = (false, eval a X.env) :: starEach [b, c] X.env := by rfl) (hs2 : starEach [b, c] X.env = (false, eval b X.env) :: starEach [c] X.env := by rfl) (hs3 : starEach [c] X.env = (false, eval c X.env) :: starEach [] X.env := by rfl) (hpl : (backTo pos (starEach [b, c] X.env)).any (·.1) = false := by rfl) :
    DI K E X Γ (.Tuple elts kk tpos) (.Call (.Name "zip" p) [a, b, c] [] pos) (iZipB3 K (tCons t (tCons tb (tCons t3 tNil)))) .fr (gZip3 ga gb gc') := by
  have e0 := U.K
  subst e0
  refine ⟨pi_zipB3 hg U.bn.zip (pa_cons h1.pe (pa_cons h2.pe (pa_cons h3.pe pa_nil hs3) hs2) hs) hs hpl, fun F0 H0 ρ σ F H fps Rr rel q => ?_⟩
  refine h1.se F0 H0 ρ σ F H fps _ rel ((RP.bind q).imp (fun d hd v F1 H1 fp x rv _ => ?_) fun _ z => z)
  refine h2.se F0 H0 ρ σ F1 H1 fps _ (rel.ext x) ((RP.bind hd).imp (fun d' hd' v' F2 H2 fp' x2 rv' _ => ?_) fun _ z => z.on x)
  refine h3.se F0 H0 ρ σ F2 H2 fps _ ((rel.ext x).ext x2) ((RP.bind hd').imp (fun d2 hd2 v2 F3 H3 fp2 x3 rv2 _ => ?_) fun _ z => (z.on x).on x2)
  obtain ⟨k1, a1, vs, ds, rfl, s1, f1, q1⟩ := seq_ok ((rv.1.mono x2.f).mono x3.f) hd2
  obtain ⟨k2, a2, ws, es, rfl, s2, f2, q2⟩ := seq_ok (rv'.1.mono x3.f) q1
  obtain ⟨k3, a3, ts, gs, rfl, s3, f3, q3⟩ := seq_ok rv2.1 q2
  obtain ⟨c, q3⟩ := RP.ite q3
  refine ⟨k1, k2, k3, a1, a2, a3, vs, ws, ts, rfl, s1.same x3.fh, s2.same x3.fh, s3.same x3.fh, q3 _ F3 H3 (x.trans (x2.trans x3)) (yld_b3 s1 s2 s3 f1 f2 f3) ?_⟩
  rw [zip3D_len]
  omega
end

/-! ### enumerate -/
def ItE1 (K : PySem.W.Frag) (k1 : Bool) (a : Addr) : It where
  go i H := ∃ (xs : List V) (x : V), SqB k1 K H a xs ∧ xs[i]? = some x
  yld i H v H' := ∃ T x, v = .ref T ∧ H T = none ∧ H' = upd H T (.tup [.int (i : Nat), x]) ∧ ∀ xs, SqB k1 K H a xs → xs[i]? = some x
  stop i H := ∃ xs : List V, SqB k1 K H a xs ∧ i = xs.length
def StE1 (k1 : Bool) (e it a : Addr) (i : Nat) (h : Heap) : Prop := (∃ old, IsEnum h e it (0 + (i : Int)) old) ∧ IB k1 h it a i
theorem turn_e1 {P : Program} {w : World} {K : PySem.W.Frag} {elts : List Expr} {kk : Nat} {tpos : Pos} {k1 : Bool} {a e it : Addr} (n1 : a ≠ it) (n2 : e ≠ it) (n3 : e ≠ a) :
    Turn P w K (.Tuple elts kk tpos) (ItE1 K k1 a) [e, it] e (StE1 k1 e it a) where
  mem := by simp
  obj := fun i h ⟨⟨old, he⟩, h1⟩ c hc => by
    simp only [List.mem_cons, List.not_mem_nil, or_false] at hc
    rcases hc with q | q <;> subst q
    · exact ⟨_, he, fun v q => nomatch q⟩
    · exact h1.obj
  keep := fun i h h' ⟨⟨old, he⟩, h1⟩ k => ⟨⟨old, k e (by simp) _ he⟩, h1.on fun o q => k it (by simp) o q⟩
  item := by
    rintro X rfl rfl rfl hc i pins s σ H E I hf ⟨⟨old, he⟩, h1⟩ ⟨xs, x, qx, hx⟩
    obtain ⟨its, rv, p, _⟩ := inv_b I qx
    obtain ⟨u, hu, ru⟩ := rv.get hx
    have hh := I.ok.hd hc
    have hi : i < its.toArray.size := by
      have e1 := (List.getElem?_eq_some_iff.mp hu).1
      rw [List.size_toArray]
      omega
    refine item_of (xs := [.int (i : Nat), x]) (GoesN.enumFrom 0 (draws_b k1 (show X.A.in1.handled = none from hh) it a n1 its.toArray) e n2 (by simp only [List.mem_cons, List.not_mem_nil, or_false, not_or]; exact ⟨n2, n3⟩) (by simp)) hi ⟨⟨old, he⟩, ⟨h1, p⟩⟩ I hf
      (fun c hcm => hcm) (fun c hcm => ?_) (by show 2 ≤ sizeLine; decide) ?_ ?_ ?_
    · simp only [List.mem_cons, List.not_mem_nil, or_false] at hcm
      rcases hcm with q | q <;> subst q
      · exact lt2 he
      · obtain ⟨_, e, _⟩ := h1.obj; exact lt2 e
    · rintro v h' ⟨T, tt, w1, rfl, hT, e1, hTT⟩
      refine ⟨T, _, rfl, hT, hTT, ?_⟩
      rw [List.getElem?_toArray, hu] at e1
      cases e1
      exact .cons ⟨tt, by rw [Int.zero_add]⟩ (.cons ru .nil)
    · exact fun T hT => ⟨T, x, rfl, hT, rfl, fun l hl => by rw [inj_b I hl qx]; exact hx⟩
    · exact fun h' ⟨q1, q2⟩ => ⟨q1, q2.1⟩
  done := by
    rintro X rfl rfl rfl hc i pins s σ H E I hf ⟨⟨old, he⟩, h1⟩ ⟨xs, qx, e0⟩
    obtain ⟨its, rv, p, _⟩ := inv_b I qx
    have hh := I.ok.hd hc
    have l1 := rv.length
    have e' : i = its.toArray.size := by rw [List.size_toArray]; omega
    subst e'
    refine (GoesN.enumFrom (elts := elts) (x1 := kk) (pos := tpos) 0 (draws_b k1 (show X.A.in1.handled = none from hh) it a n1 its.toArray) e n2 (by simp only [List.mem_cons, List.not_mem_nil, or_false, not_or]; exact ⟨n2, n3⟩) (by simp)).stops s (fun s1 => Inv X pins σ H s1) E ⟨⟨old, he⟩, ⟨h1, p⟩⟩ fun h' tk hk _ => ?_
    exact I.turnedL (t' := tk) (ch := [e, it]) (fun c o hb q => hk c o hb q) hf
  self := fun A i s Q E st h => by obtain ⟨⟨old, he⟩, _⟩ := st; exact wpAny_pyIter_enum he h
omit [Tbs] in
theorem meets_enum1 {v : Value} {o : Obj} {Hq : Heap → Prop} (B : Begins v o Hq) :
    Meets (Builtin.«enumerate.__new__» ⟨[.type "enumerate", v], []⟩) (fun _ Rr s0 => Hq s0.heap ∧
      Rr (.ok (.ret (.ref (s0.heap.push o).objs.size))) { s0 with heap := (s0.heap.push o).push { cls := .type "enumerate", data := .fields #[.none, .bool false, .ref s0.heap.objs.size, rawInt 0, .none, .none] } }) :=
  .of_wp fun prog w A Rr s0 hq => by
    obtain ⟨hp, gg, dd, tk, os⟩ := s0; obtain ⟨h1, hq⟩ := hq
    have hsub := sub_enumerate
    have q1 : ∀ {A' : Around} {E' : Value → Shared → Prop} {Q' : Value → Shared → Prop}, Q' (.ref hp.objs.size) ⟨hp.push o, gg, dd, tk, os⟩ → wpAny (model prog w) A' (pyIter v) Q' E' ⟨hp, gg, dd, tk, os⟩ :=
      fun qq => B.iter prog w _ _ ⟨hp, gg, dd, tk, os⟩ _ h1 qq
    wp_walk using q1
    refine wpAny_stack_any fun st0 => wpAny_pure ?_
    split <;> first
      | (rename_i c0 _ _ _ _ _; cases (c0 == Value.type "enumerate") <;> (wp_walk using q1; exact ⟨_, rfl, hq⟩))
      | (wp_walk using q1; exact ⟨_, rfl, hq⟩)
omit [Tbs] in
theorem enum1_begins {prog : Program} {w : World} {A : Around} {E : Value → Shared → Prop} {s : Shared} {v : Value} {o : Obj} {Hq : Heap → Prop} {Q : Value → Shared → Prop} (B : Begins v o Hq) (h1 : Hq s.heap)
    (h : ∀ h', IsEnum h' (s.heap.objs.size + 1) s.heap.objs.size 0 .none → h'.get? s.heap.objs.size = some o → (∀ b o, s.heap.get? b = some o → h'.get? b = some o) → Q (.ref (s.heap.objs.size + 1)) { s with heap := h' }) :
    wpAny (model prog w) A (call (.type "enumerate") [v]) Q E s := by
  refine callType_new F.called_enumerate (by decide) (F.typeCall_enumerate_1 _) (F.newCall_enumerate_1 _) (fun ob => F.args_object_init_2 ob _) F.entry_enumerate_new (meets_enum1 B) ⟨h1, ?_⟩
  have hz : (s.heap.push o).objs.size = s.heap.objs.size + 1 := Heap.size_push ..
  have he := Heap.get?_push_size (s.heap.push o) (o := { cls := .type "enumerate", data := .fields #[.none, .bool false, .ref s.heap.objs.size, rawInt 0, .none, .none] }) rfl
  rw [hz] at he
  show _ ∧ _
  rw [hz]
  exact ⟨⟨_, he, rfl⟩, h _ he (Heap.get?_push_of_some _ (Heap.get?_push_size _ B.free)) fun b o x => Heap.get?_push_of_some _ (Heap.get?_push_of_some _ x)⟩
def iEnumB (K : PySem.W.Frag) (ta : TA) : TI := fun σ H Rr => ta σ H fun vs H1 => ∃ k1 a xs, vs = [.ref a] ∧ SqB k1 K H1 a xs ∧ Rr (ItE1 K k1 a) H1
section
variable {K : PySem.W.Frag} {E : XK} {X : Cx} {Γ : List M} {e a : Expr} {t : TE} {ta : TA} {m : M} {g ga : List D → R D} {p pos tpos : Pos} {elts : List Expr} {kk k : Nat}
theorem pi_enumB (hg : Gl X "enumerate") (hm : X.mg "enumerate" = none) (ha : PA X [e] ta) (hs : starEach [e] X.env = (false, eval e X.env) :: starEach [] X.env := by rfl) :
    PI X (.Tuple elts kk tpos) (.Call (.Name "enumerate" p) [e] [] pos) (iEnumB X.K ta) := by
  refine ⟨fun pins s σ H Rr I h => ?_⟩
  refine Call_ (ld_blt I hg hm boot_enumerate (PyProof.Rows.callWith_type1 (thn (ha.run pos pins s σ H _ I h) fun us s1 ⟨vs, H1, I1, r1, q1⟩ => ?_) hs rfl))
  obtain ⟨k1, a, xs, rfl, qx, q⟩ := q1
  obtain ⟨u, rfl, ru⟩ := vals1 r1
  cases ru
  obtain ⟨its, rv, p1, z1⟩ := inv_b I1 qx
  refine enum1_begins (begins_b k1 a its.toArray) p1 fun h' he o1 hk => wpAny_pyIter_enum he ?_
  refine ⟨_, _, _, _, H1, rfl, I1.kept (t' := s1.toks) hk, turn_e1 (show (a : Nat) ≠ s1.heap.objs.size from Nat.ne_of_lt z1) (Nat.succ_ne_self _) (Nat.ne_of_gt (Nat.lt_succ_of_lt z1)), ⟨⟨_, he⟩, ib_new o1⟩, fp_new I1 _ (fun c hcm => ?_), q⟩
  simp only [List.mem_cons, List.not_mem_nil, or_false] at hcm
  rcases hcm with q | q <;> subst q <;> first | exact Nat.le_add_right _ _ | exact Nat.le_refl _
omit [Tbs] in
theorem walk_e1 {k1 : Bool} {a : Addr} {xs : List V} : Walk (ItE1 K k1 a) xs.length (fun H => SqB k1 K H a xs) (fun i H v H' => ∃ T x, v = .ref T ∧ H T = none ∧ H' = upd H T (.tup [.int (i : Nat), x]) ∧ xs[i]? = some x) :=
  ⟨fun i H hi q => ⟨xs, xs[i], q, by simp [hi]⟩, fun H q => ⟨xs, q, rfl⟩, fun i H v H' _ q ⟨T, x, h1, h2, h3, h4⟩ => ⟨T, x, h1, h2, h3, h4 xs q⟩⟩
def enumD : Nat → List D → List D
  | _, [] => []
  | n, d :: ds => .tup [.int (n : Nat), d] :: enumD (n + 1) ds
omit [Tbs] in
theorem enumD_len : ∀ (n : Nat) (ds : List D), (enumD n ds).length = ds.length
  | _, [] => rfl
  | n, _ :: ds => by unfold enumD; rw [List.length_cons, List.length_cons, enumD_len (n + 1) ds]
omit [Tbs] in
theorem enumD_get : ∀ {n : Nat} {ds : List D} {i : Nat} {d : D}, ds[i]? = some d → (enumD n ds)[i]? = some (.tup [.int ((n + i : Nat) : Int), d])
  | _, [], _, _, h => by simp at h
  | n, d :: ds, 0, _, h => by simp at h; subst h; rfl
  | n, d :: ds, i + 1, _, h => by
    have := enumD_get (n := n + 1) (ds := ds) (i := i) (by simpa using h)
    unfold enumD
    rw [show n + (i + 1) = n + 1 + i by omega]
    simpa using this
def dEnum (d : D) : R (List D) := dSqs d >>= fun ds => if ds.length ≤ sizeLine then .ok (enumD 0 ds) else .bad
theorem yld_e1 {F H0 : Hp} {k1 : Bool} {a : Addr} {xs : List V} {ds : List D} (h1 : SqB k1 K F a xs) (f1 : FzL K F xs ds) : Yld K (ItE1 K k1 a) F H0 .fr (enumD 0 ds) := by
  have w := walk_e1 (K := K) (k1 := k1) (a := a) (xs := xs)
  have hl : xs.length = (enumD 0 ds).length := by rw [enumD_len, f1.length]
  rw [hl] at w
  refine Yld.mk' w (fun H' s _ => h1.same s) fun i H' x H'' hi s1 s2 ⟨T, x1, ex, hT, eH, hx⟩ F' s3 s4 => ?_
  subst ex
  subst eH
  obtain ⟨d, hd, fz⟩ := f1.getV hx
  have xl : Ext F' H' (upd F' T (.tup [.int (i : Nat), x1])) (upd H' T (.tup [.int (i : Nat), x1])) := Ext.laid s4 hT
  have hg := enumD_get (n := 0) hd
  rw [Nat.zero_add] at hg
  exact ⟨_, .tup [.int (i : Nat), d], xl, hg, .tup (SqT.of upd_same) (.cons (.int _) (.cons ((fz.mono s3).mono xl.f) .nil)), rfl⟩
theorem di_enum (U : Uni K E k X) (h1 : DE K E X Γ a t .fr ga) (hg : Gl X "enumerate" := by rfl) (hs : starEach [a] X.env = (false, eval a X.env) :: starEach [] X.env := by rfl) :
    DI K E X Γ (.Tuple elts kk tpos) (.Call (.Name "enumerate" p) [a] [] pos) (iEnumB K (tCons t tNil)) .fr (gJ dEnum ga) := by
  have e0 := U.K
  subst e0
  refine ⟨pi_enumB hg U.bn.enumerate (pa_cons h1.pe pa_nil hs) hs, fun F0 H0 ρ σ F H fps Rr rel q => ?_⟩
  refine h1.se F0 H0 ρ σ F H fps _ rel ((RP.bind q).imp (fun d hd v F1 H1 fp x rv _ => ?_) fun _ z => z)
  obtain ⟨k1, a1, vs, ds, rfl, s1, f1, q1⟩ := seq_ok rv.1 (show RP (dSqs d >>= _) _ _ from hd)
  obtain ⟨c, q1⟩ := RP.ite q1
  refine ⟨k1, a1, vs, rfl, s1.same x.fh, q1 _ F1 H1 x (yld_e1 s1 f1) ?_⟩
  rw [enumD_len]
  omega
end
end DL
/-! DLr: own things only looked at; lists of own lists, changed within. -/
namespace DL
open PySem L2
variable [Tbs]

/-! ### a look: own slots are borrowed for the time of an expression -/
def bor : M → M
  | .ow _ => .bo
  | .pk => .bo
  | .pin _ _ => .bo
  | m => m
theorem Rel.borrow {K : PySem.W.Frag} {F0 H0 F H : Hp} {Γ : List M} {ρ : List D} {σ : St} {fps : Nat → List Addr} (r : Rel K F0 H0 Γ ρ σ F H fps) : Rel K F H (Γ.map bor) ρ σ F H (fun _ => []) where
  fh := r.fh
  f0 := Same.refl _
  h0 := Same.refl _
  tb := r.tb
  new := fun a o q => .inl q
  lg := by rw [List.length_map]; exact r.lg
  lr := r.lr
  sl := fun i => by
    have h := r.sl i
    have e : (Γ.map bor).getD i .un = bor (Γ.getD i .un) := by
      rw [List.getD_eq_getElem?_getD, List.getD_eq_getElem?_getD, List.getElem?_map]
      cases Γ[i]? <;> rfl
    rw [e]
    rcases h with ⟨h, _⟩ | ⟨v, e1, st, rv⟩
    · rw [h]; exact .inl ⟨rfl, rfl⟩
    · refine .inr ⟨v, e1, ?_, ?_⟩
      · cases hm : Γ.getD i .un with
        | un => rw [hm] at st; cases st
        | io _ _ _ => rw [hm] at st; cases st
        | _ => rfl
      · have b := rv.pk r.fh r.h0
        cases hm : Γ.getD i .un with
        | un => rw [hm] at st; cases st
        | fr => rw [hm] at rv; exact ⟨rv.1, rfl⟩
        | bo => exact ⟨b, rfl⟩
        | pk => exact ⟨b, rfl⟩
        | ow m => exact ⟨b, rfl⟩
        | pin m sv => exact ⟨b, rfl⟩
        | io r m sv => rw [hm] at rv; exact (show False from rv).elim
  nd := fun _ => List.nodup_nil
  dj := fun _ _ _ h => nomatch h
  ow := fun _ _ h => nomatch h
section
variable {K : PySem.W.Frag} {E : XK} {X : Cx} {Γ n b c : List M} {a e ix ix2 : Expr} {t te ti ti2 : TE} {m r mi mi2 : M} {g gi gi2 : List D → R D} {p p1 p2 p3 p4 pos : Pos} {k : Nat}
theorem SE.bor (h : SE K E (Γ.map bor) t m g) (hm : m.fz = true) : SE K E Γ t m g := fun F0 H0 ρ σ F H fps Q rel q =>
  h F H ρ σ F H (fun _ => []) Q rel.borrow (q.imp (fun d hd => VP.base hm hd) fun _ z => z)
theorem DE.bor {Γ' : List M} (h : DE K E X Γ' e t m g) (e' : Γ' = Γ.map DL.bor := by rfl) (hm : m.fz = true := by rfl) : DE K E X Γ e t m g := by
  subst e'
  exact ⟨h.pe, h.se.bor hm⟩

/-! ### x[i][j] = e, x[i].append(e): x a list of own lists of frozen items -/
omit [Tbs] in
theorem Al.upd2 {H0 F H : Hp} : ∀ {vs : List V} {dss : List D} {fp : List Addr} {j : Nat} {ds : List D}, Al (Rv K H0 F H (.ow .fr)) vs dss fp → fp.Nodup → dss[j]? = some (.lst ds) →
    ∃ l ws, vs[j]? = some (.ref l) ∧ H l = some (.lst ws) ∧ FzL K F ws ds ∧ l ∈ fp ∧ ∀ ws' ds', FzL K F ws' ds' → Al (Rv K H0 F (upd H l (.lst ws')) (.ow .fr)) vs (dss.set j (.lst ds')) fp
  | v :: vs, d :: dss, fp, 0, ds, ⟨f1, f2, e, h1, h2⟩, nd, q => by
    simp at q
    subst q
    obtain ⟨l, ws, f3, rfl, hl, al, ef⟩ := Rv.ow_lst h1
    obtain ⟨fz, e1⟩ := al.fr
    subst e1
    rw [e] at nd
    refine ⟨l, ws, rfl, hl, fz, by rw [e, ef]; simp, fun ws' ds' fz' => ⟨f1, f2, e, ⟨l, ws', [], rfl, upd_same, fz'.al, ef⟩, h2.imp fun v d f hf q => q.keep (Same.refl _) rfl fun a ha o wz z => ?_⟩⟩
    rw [upd_ne fun w => (List.nodup_append.mp nd).2.2 l (by rw [ef]; simp) a (hf a ha) w.symm]
    exact z
  | v :: vs, d :: dss, fp, j + 1, ds, ⟨f1, f2, e, h1, h2⟩, nd, q => by
    rw [e] at nd
    obtain ⟨l, ws, q1, q2, q3, q4, q5⟩ := Al.upd2 (j := j) (ds := ds) h2 (List.nodup_append.mp nd).2.1 (by simpa using q)
    refine ⟨l, ws, by simpa using q1, q2, q3, by rw [e]; exact List.mem_append_right _ q4, fun ws' ds' fz' => ⟨f1, f2, e, h1.keep (Same.refl _) rfl fun a ha o wz z => ?_, q5 ws' ds' fz'⟩⟩
    rw [upd_ne fun w => (List.nodup_append.mp nd).2.2 a ha l q4 w]
    exact z
  | [], [], _, _, _, _, _, q => by simp at q
  | [], _ :: _, _, _, _, h, _, _ => h.elim
  | _ :: _, [], _, _, _, h, _, _ => h.elim
/-- the inner list, and what it is to change it -/
theorem Rel.inner {F0 H0 F H : Hp} {ρ : List D} {σ : St} {fps : Nat → List Addr} {i : Nat} {v : V} {dss ds : List D} {j : Nat} (rel : Rel K F0 H0 Γ ρ σ F H fps) (hi : Γ[i]? = some (.ow (.ow .fr))) (hv : σ[i]? = some (some v)) (rv : Rv K H0 F H (.ow (.ow .fr)) v (.lst dss) (fps i)) (hj : dss[j]? = some (.lst ds)) :
    ∃ a vs l ws, v = .ref a ∧ H a = some (.lst vs) ∧ vs[j]? = some (.ref l) ∧ H l = some (.lst ws) ∧ FzL K F ws ds ∧ vs.length = dss.length ∧
      ∀ ws' ds', FzL K F ws' ds' → Rel K F0 H0 Γ (ρ.set i (.lst (dss.set j (.lst ds')))) σ F (upd H l (.lst ws')) (fun j => if j = i then fps i else fps j) := by
  obtain ⟨a, vs, f1, rfl, ha, al, ef⟩ := Rv.ow_lst rv
  have nd := rel.nd i
  rw [ef, List.nodup_cons] at nd
  obtain ⟨l, ws, q1, q2, q3, q4, q5⟩ := al.upd2 nd.2 hj
  refine ⟨a, vs, l, ws, rfl, ha, q1, q2, q3, al.length, fun ws' ds' fz' => ?_⟩
  have hal : a ≠ l := fun w => nd.1 (by rw [w]; exact q4)
  exact rel.mut hi hv rfl (show l ∈ fps i by rw [ef]; exact List.mem_cons_of_mem _ q4) ⟨a, vs, f1, rfl, by rw [upd_ne hal]; exact ha, q5 ws' ds' fz', ef⟩ (rel.nd i) (fun b hb => rel.ow i b hb) fun jj b hjj hb hz => hjj (rel.dj jj i b hb hz)
def asI {α : Type} (d : D) (f : Int → R α) : R α := match d with
  | .int k => f k
  | _ => .bad
omit [Tbs] in
theorem asI_ok {α : Type} {d : D} {f : Int → R α} {P : α → Prop} {Xx : Ex → Prop} (q : RP (asI d f) P Xx) : ∃ k, d = .int k ∧ RP (f k) P Xx := by
  cases d with
  | int k => exact ⟨k, rfl, q⟩
  | _ => exact (show False from q).elim
def nest {α : Type} (d : D) (k : Int) (f : Nat → List D → List D → R α) : R α := match d with
  | .lst dss => oR (ixN dss.length k) >>= fun j => (match dss[j]? with
    | some (.lst ds) => f j dss ds
    | _ => .bad)
  | _ => .bad
omit [Tbs] in
theorem nest_ok {α : Type} {d : D} {k : Int} {f : Nat → List D → List D → R α} {P : α → Prop} {Xx : Ex → Prop} (q : RP (nest d k f) P Xx) : ∃ dss j ds, d = .lst dss ∧ ixN dss.length k = some j ∧ dss[j]? = some (.lst ds) ∧ RP (f j dss ds) P Xx := by
  cases d with
  | lst dss =>
    obtain ⟨j, hj, q2⟩ := oR_ok (RP.bind (show RP (oR (ixN dss.length k) >>= _) _ _ from q))
    cases e : dss[j]? with
    | none => simp only [e] at q2; exact (show False from q2).elim
    | some d2 =>
      simp only [e] at q2
      cases d2 with
      | lst ds => exact ⟨dss, j, ds, rfl, hj, e, q2⟩
      | _ => exact (show False from q2).elim
  | _ => exact (show False from q).elim
def gSetII (i : Nat) (g gi gi2 : List D → R D) : List D → R Fl := fun ρ => g ρ >>= fun d => gi ρ >>= fun dk => asI dk fun k => nest (ρ.getD i .non) k fun j dss ds =>
  gi2 ρ >>= fun dk2 => asI dk2 fun k2 => oR (ixN ds.length k2) >>= fun j2 => .ok (.nx (ρ.set i (.lst (dss.set j (.lst (ds.set j2 d))))))
omit [Tbs] in
theorem atI_ixN {α : Type} {xs : List α} {k : Int} {j : Nat} {x : α} (h : ixN xs.length k = some j) (h2 : xs[j]? = some x) : atI xs k = some x := by unfold atI; rw [h]; exact h2
theorem ss_setII {i : Nat} (hi : Γ[i]? = some (.ow (.ow .fr))) (h : SE K E Γ te .fr g) (h2 : SE K E Γ ti mi gi) (h3 : SE K E Γ ti2 mi2 gi2) : SS K E Γ Γ b c r (tAsg te (gSub (tOp (rIx K) (tVar i) ti) ti2 rSetL)) (gSetII i g gi gi2) := fun F0 H0 ρ σ F H fps N rel q => by
  refine h F0 H0 ρ σ F H fps _ rel ((RP.bind q).imp (fun d q1 y F1 H1 fpy x rvy fy => ?_) fun _ z => z.on rel.x0)
  have rel1 := rel.ext x
  obtain ⟨v, hv, st, rv⟩ := rel1.get hi (fun z => nomatch z)
  refine ⟨v, hv, ?_⟩
  refine h2.pk F0 H0 ρ σ F1 H1 fps _ rel1 ((RP.bind q1).imp (fun dk q2 kv F2 H2 fpk x2 rvk fk => ?_) fun _ z => z.on rel1.x0)
  have rel2 := rel1.ext x2
  have rv2 := rv.grow x2.f x2.h
  obtain ⟨kk, rfl, q3⟩ := asI_ok q2
  obtain ⟨dss, j, ds, hd, hj, hin, q4⟩ := nest_ok q3
  rw [hd] at rv2
  obtain ⟨a, vs, l, ws, rfl, ha, hvj, hl, fz, hlen, put⟩ := rel2.inner hi hv rv2 hin
  obtain rfl := rvk.1.intOf
  refine .inl ⟨a, vs, kk, .ref l, rfl, rfl, SqL.of ha, atI_ixN (by rw [hlen]; exact hj) hvj, ?_⟩
  refine h3.pk F0 H0 ρ σ F2 H2 fps _ rel2 ((RP.bind q4).imp (fun dk2 q5 kv2 F3 H3 fpk2 x3 rvk2 fk2 => ?_) fun _ z => z.on rel2.x0)
  obtain ⟨kk2, rfl, q5⟩ := asI_ok q5
  obtain ⟨j2, hj2, q6⟩ := oR_ok (RP.bind q5)
  have rel3 := rel2.ext x3
  have rv3 := rv2.grow x3.f x3.h
  obtain ⟨a', vs', l', ws', e1, ha', hvj', hl', fz', hlen', put'⟩ := rel3.inner hi hv rv3 hin
  cases e1
  have ea := x3.h.at_ ha
  rw [ea] at ha'
  cases ha'
  rw [hvj] at hvj'
  cases hvj'
  refine ⟨l, ws', kk2, j2, rfl, rvk2.1.intOf, hl', by rw [fz'.length]; exact hj2, ?_⟩
  exact q6 σ F3 _ _ (x.f.trans (x2.f.trans x3.f)) (put' _ _ (fz'.set j2 ((rvy.1.mono x2.f).mono x3.f)))
/-- x[i][j] = e -/
theorem ds_setII (i : Nat) {x : Str} (U : Uni K E k X) (h : DE K E X Γ e te .fr g) (h2 : DE K E X Γ ix ti mi gi) (h3 : DE K E X Γ ix2 ti2 mi2 gi2) (hi : Γ[i]? = some (.ow (.ow .fr)) := by rfl) (hN : X.N[i]? = some x := by rfl) (hv : Vis X.env.scope x := by first | exact Or.inl rfl | exact Or.inr (Or.inl rfl) | exact Or.inr (Or.inr rfl))
    (hd : (x == ("__debug__" : Str)) = false := by decide) (hcd : (x == ("__classdict__" : Str)) = false := by decide) (hpl : PlainIx ix := by exact fun _ _ => rfl)
    (pg : PE X (.Subscript (.Name x p1) ix p3) (tOp (rIx X.K) (tVar i) ti) → PE X ix2 ti2 → PG X (.Subscript (.Subscript (.Name x p1) ix p3) ix2 p2) (gSub (tOp (rIx X.K) (tVar i) ti) ti2 rSetL) := by exact fun h1 h2 => pg_sub h1 h2 set_list)
    (ps : PE X e te → PG X (.Subscript (.Subscript (.Name x p1) ix p3) ix2 p2) (gSub (tOp (rIx X.K) (tVar i) ti) ti2 rSetL) → PS X (.Assign [.Subscript (.Subscript (.Name x p1) ix p3) ix2 p2] e pos) (tAsg te (gSub (tOp (rIx X.K) (tVar i) ti) ti2 rSetL)) := by exact fun h1 h2 => ps_asg h1 h2) :
    DS K E X Γ (.Assign [.Subscript (.Subscript (.Name x p1) ix p3) ix2 p2] e pos) (tAsg te (gSub (tOp (rIx K) (tVar i) ti) ti2 rSetL)) Γ b c r (gSetII i g gi gi2) := by
  have e0 := U.K
  subst e0
  exact ⟨ps h.pe (pg (pe_ix ix_seq (pe_var hN hv hd hcd) h2.pe hpl) h3.pe), ss_setII hi h.se h2.se h3.se⟩
def gApp2 (i : Nat) (gi g : List D → R D) : List D → R Fl := fun ρ => gi ρ >>= fun dk => asI dk fun k => nest (ρ.getD i .non) k fun j dss ds =>
  g ρ >>= fun d => if ds.length < sizeLine then .ok (.nx (ρ.set i (.lst (dss.set j (.lst (ds ++ [d])))))) else .bad
theorem ss_app2 {i : Nat} (hi : Γ[i]? = some (.ow (.ow .fr))) (h2 : SE K E Γ ti mi gi) (h : SE K E Γ te .fr g) : SS K E Γ Γ b c r (tDrop (tBM K "list" rAppend (tOp (rIx K) (tVar i) ti) (tCons te tNil))) (gApp2 i gi g) := fun F0 H0 ρ σ F H fps N rel q => by
  obtain ⟨v, hv, st, rv⟩ := rel.get hi (fun z => nomatch z)
  refine ⟨v, hv, ?_⟩
  refine h2.pk F0 H0 ρ σ F H fps _ rel ((RP.bind q).imp (fun dk q2 kv F2 H2 fpk x2 rvk fk => ?_) fun _ z => z.on rel.x0)
  have rel2 := rel.ext x2
  have rv2 := rv.grow x2.f x2.h
  obtain ⟨kk, rfl, q3⟩ := asI_ok q2
  obtain ⟨dss, j, ds, hd, hj, hin, q4⟩ := nest_ok q3
  rw [hd] at rv2
  obtain ⟨a, vs, l, ws, rfl, ha, hvj, hl, fz, hlen, put⟩ := rel2.inner hi hv rv2 hin
  obtain rfl := rvk.1.intOf
  refine .inl ⟨a, vs, kk, .ref l, rfl, rfl, SqL.of ha, atI_ixN (by rw [hlen]; exact hj) hvj, ?_⟩
  refine ⟨.inl ⟨rfl, ws, SqL.of hl⟩, ?_⟩
  refine h F0 H0 ρ σ F2 H2 fps _ rel2 ((RP.bind q4).imp (fun d q5 y F3 H3 fpy x3 rvy fy => ?_) fun _ z => z.on rel2.x0)
  obtain ⟨cz, q6⟩ := RP.ite q5
  have rel3 := rel2.ext x3
  have rv3 := rv2.grow x3.f x3.h
  obtain ⟨a', vs', l', ws', e1, ha', hvj', hl', fz', hlen', put'⟩ := rel3.inner hi hv rv3 hin
  cases e1
  have ea := x3.h.at_ ha
  rw [ea] at ha'
  cases ha'
  rw [hvj] at hvj'
  cases hvj'
  refine ⟨l, ws', y, rfl, rfl, hl', by rw [fz'.length]; exact cz, ?_⟩
  exact q6 σ F3 _ _ (x2.f.trans x3.f) (put' _ _ (fz'.append (.cons rvy.1 .nil)))
/-- x[i].append(e) -/
theorem ds_app2 (i : Nat) {x : Str} (U : Uni K E k X) (h2 : DE K E X Γ ix ti mi gi) (h : DE K E X Γ e te .fr g) (hi : Γ[i]? = some (.ow (.ow .fr)) := by rfl) (hN : X.N[i]? = some x := by rfl) (hv : Vis X.env.scope x := by first | exact Or.inl rfl | exact Or.inr (Or.inl rfl) | exact Or.inr (Or.inr rfl))
    (hd : (x == ("__debug__" : Str)) = false := by decide) (hcd : (x == ("__classdict__" : Str)) = false := by decide) (hpl : PlainIx ix := by exact fun _ _ => rfl)
    (pe : PE X (.Subscript (.Name x p1) ix p4) (tOp (rIx X.K) (tVar i) ti) → PA X [e] (tCons te tNil) → PE X (.Call (.Attribute (.Subscript (.Name x p1) ix p4) "append" p2) [e] [] p3) (tBM X.K "list" rAppend (tOp (rIx X.K) (tVar i) ti) (tCons te tNil)) := by exact fun h1 h2 => pe_bm PySem.F.plainAttrs_list PySem.F.slot_list_append PySem.F.type_list_append mt_append h1 h2)
    (hs : swapsWith (.Call (.Attribute (.Subscript (.Name x p1) ix p4) "append" p2) [e] [] p3) none pos.line X.env = pure false := by rfl) (he : starEach [e] X.env = (false, eval e X.env) :: starEach [] X.env := by rfl) :
    DS K E X Γ (.Expr (.Call (.Attribute (.Subscript (.Name x p1) ix p4) "append" p2) [e] [] p3) pos) (tDrop (tBM K "list" rAppend (tOp (rIx K) (tVar i) ti) (tCons te tNil))) Γ b c r (gApp2 i gi g) := by
  have e0 := U.K
  subst e0
  exact ⟨ps_expr (pe (pe_ix ix_seq (pe_var hN hv hd hcd) h2.pe hpl) (pa_cons h.pe pa_nil he)) hs, ss_app2 hi h2.se h.se⟩
end
end DL
/-! DLu: isinstance by two types; what is never reached. -/
namespace DL
open PySem L2
variable [Tbs]
def dIsi2 (T T2 : String) (d : D) : R D := match tyName d with
  | some n => (match kitB n T with
    | some true => .ok (.bl true)
    | some false => (match kitB n T2 with
      | some b => .ok (.bl b)
      | none => .bad)
    | none => .bad)
  | none => .bad
section
variable {K : PySem.W.Frag} {E : XK} {X : Cx} {Γ n b c : List M} {a e : Expr} {s : Stmt} {ss : List Stmt} {t ta : TE} {m r : M} {g ga : List D → R D} {p p2 p3 p4 pos : Pos} {k : Nat}
theorem se_isi2 {T T2 : String} (h : SE K E Γ t m g) : SE K E Γ (tCB (rIsiT K) (tCons t (tCons (tTup (tCons (tC (.ty T)) (tCons (tC (.ty T2)) tNil))) tNil))) .fr (g1 (dIsi2 T T2) g) := fun F0 H0 ρ σ F H fps Q rel q => by
  refine h.pk F0 H0 ρ σ F H fps _ rel ((RP.bind q).imp (fun d hd v F' H' fp x rv _ => ?_) fun _ z => z)
  refine ⟨show 2 ≤ sizeLine by decide, fun p hp => ?_⟩
  show rIsiT K [v, .ref p] (upd H' p (.tup [.ty T, .ty T2])) Q
  have xm : Ext F' H' F' (upd H' p (.tup [.ty T, .ty T2])) := Ext.made x.fh hp
  unfold dIsi2 at hd
  cases hn : tyName d with
  | none => rw [hn] at hd; exact hd.elim
  | some n =>
    rw [hn] at hd
    have fin : ∀ bb, PySem.W.kitAny K (.type n) [.type T, .type T2] = some bb → VP K H0 F H .fr (.bl bb) Q → rIsiT K [v, .ref p] (upd H' p (.tup [.ty T, .ty T2])) Q := fun bb hk hv =>
      ⟨v, p, [.ty T, .ty T2], .type n, [.type T, .type T2], bb, rfl, upd_same, .cons (.ty T) (.cons (.ty T2) .nil), (rv.1.mono xm.h (Same.refl _)).tyX xm.fh hn, hk, VP.old (VP.on hv (x.trans xm)) xm.fh (.bl _)⟩
    cases h1 : kitB n T with
    | none => simp only [h1] at hd; exact hd.elim
    | some b1 =>
      cases b1 with
      | true =>
        simp only [h1] at hd
        exact fin true (kitAny_cons (kit_ty h1) (fun z => nomatch z) fun _ => rfl) hd
      | false =>
        cases h2 : kitB n T2 with
        | none => simp only [h1, h2] at hd; exact hd.elim
        | some b2 =>
          simp only [h1, h2] at hd
          exact fin b2 (kitAny_cons (kit_ty h1) (fun _ => kitAny_cons (kit_ty h2) (fun z => by rw [z]; exact kitAny_nil) fun z => z) fun z => nomatch z) hd
/-- isinstance(x, (T, T2)), built-in types by their names -/
theorem de_isi2 (T T2 : String) {x y : Str} {kk : Nat} (U : Uni K E k X) (h : DE K E X Γ a ta m ga) (hm : X.mg x = none) (hv : bootBuiltins x = some (.type T)) (hm2 : X.mg y = none) (hv2 : bootBuiltins y = some (.type T2)) (hg : Gl X "isinstance" := by rfl) (hg2 : Gl X x := by rfl) (hg3 : Gl X y := by rfl) (hn : x ≠ "__name__" := by decide) (hn2 : y ≠ "__name__" := by decide) (hd : (x == ("__debug__" : Str)) = false := by decide) (hd2 : (y == ("__debug__" : Str)) = false := by decide)
    (he : starEach [a, (.Tuple [.Name x p2, .Name y p3] kk p4 : Expr)] X.env = (false, eval a X.env) :: starEach [(.Tuple [.Name x p2, .Name y p3] kk p4 : Expr)] X.env := by rfl) (he2 : starEach [(.Tuple [.Name x p2, .Name y p3] kk p4 : Expr)] X.env = (false, eval (.Tuple [.Name x p2, .Name y p3] kk p4) X.env) :: starEach [] X.env := by rfl)
    (he3 : starEach [(.Name x p2 : Expr), .Name y p3] X.env = (false, eval (.Name x p2) X.env) :: starEach [.Name y p3] X.env := by rfl) (he4 : starEach [(.Name y p3 : Expr)] X.env = (false, eval (.Name y p3) X.env) :: starEach [] X.env := by rfl) (hpl : (backTo pos (starEach [(.Tuple [.Name x p2, .Name y p3] kk p4 : Expr)] X.env)).any (·.1) = false := by rfl) :
    DE K E X Γ (.Call (.Name "isinstance" p) [a, .Tuple [.Name x p2, .Name y p3] kk p4] [] pos) (tCB (rIsiT K) (tCons ta (tCons (tTup (tCons (tC (.ty T)) (tCons (tC (.ty T2)) tNil))) tNil))) .fr (g1 (dIsi2 T T2) ga) := by
  have e0 := U.K
  subst e0
  exact ⟨pe_callB call_isiT hg U.bn.isinstance (by decide +kernel) (pa_cons h.pe (pa_cons (pe_tup (pa_cons (pe_bltn (v := .ty T) hg2 hm hv rfl hn hd) (pa_cons (pe_bltn (v := .ty T2) hg3 hm2 hv2 rfl hn2 hd2) pa_nil he4) he3)) pa_nil he2) he) (by decide) (by decide) he hpl, se_isi2 h.se⟩
/-! what is never reached -/
theorem ds_dead : DS K E X Γ s (fun _ _ _ => False) n b c r (fun _ => .bad) := ⟨⟨fun _ _ _ _ _ _ h => h.elim⟩, fun _ _ _ _ _ _ _ _ _ q => q⟩
theorem dss_dead : DSs K E X Γ ss (fun _ _ _ => False) n b c r (fun _ => .bad) := ⟨⟨fun _ _ _ _ _ _ h => h.elim⟩, fun _ _ _ _ _ _ _ _ _ q => q⟩
theorem de_dead : DE K E X Γ e (fun _ _ _ => False) .fr (fun _ => .bad) := ⟨⟨fun _ _ _ _ _ _ h => h.elim⟩, fun _ _ _ _ _ _ _ _ _ q => q⟩
end
omit [Tbs] in
theorem dIsi2_t (ds : List D) : dIsi2 "tuple" "list" (.tup ds) = .ok (.bl true) := by
  have h : kitB "tuple" "tuple" = some true := by decide +kernel
  unfold dIsi2 tyName
  simp only [h]
omit [Tbs] in
theorem dIsi2_l (ds : List D) : dIsi2 "tuple" "list" (.lst ds) = .ok (.bl true) := by
  have h : kitB "list" "tuple" = some false := by decide +kernel
  have h2 : kitB "list" "list" = some true := by decide +kernel
  unfold dIsi2 tyName
  simp only [h, h2]
omit [Tbs] in
theorem dIsi2_i (i : Int) : dIsi2 "tuple" "list" (.int i) = .ok (.bl false) := by
  have h : kitB "int" "tuple" = some false := by decide +kernel
  have h2 : kitB "int" "list" = some false := by decide +kernel
  unfold dIsi2 tyName
  simp only [h, h2]
omit [Tbs] in
theorem dIsi2_n : dIsi2 "tuple" "list" .non = .ok (.bl false) := by
  have h : kitB "NoneType" "tuple" = some false := by decide +kernel
  have h2 : kitB "NoneType" "list" = some false := by decide +kernel
  unfold dIsi2 tyName
  simp only [h, h2]
omit [Tbs] in
theorem dIsi2_s (x : Str) : dIsi2 "tuple" "list" (.str x) = .ok (.bl false) := by
  have h : kitB "str" "tuple" = some false := by decide +kernel
  have h2 : kitB "str" "list" = some false := by decide +kernel
  unfold dIsi2 tyName
  simp only [h, h2]
omit [Tbs] in
theorem dIsi_tl (ds : List D) : dIsi "tuple" (.lst ds) = .ok (.bl false) := by
  have h : kitB "list" "tuple" = some false := by decide +kernel
  unfold dIsi tyName
  simp only [h]
omit [Tbs] in
theorem dIsi_ti (i : Int) : dIsi "tuple" (.int i) = .ok (.bl false) := by
  have h : kitB "int" "tuple" = some false := by decide +kernel
  unfold dIsi tyName
  simp only [h]
omit [Tbs] in
theorem dIsi_tn : dIsi "tuple" .non = .ok (.bl false) := by
  have h : kitB "NoneType" "tuple" = some false := by decide +kernel
  unfold dIsi tyName
  simp only [h]
omit [Tbs] in
theorem dIsi_ts (x : Str) : dIsi "tuple" (.str x) = .ok (.bl false) := by
  have h : kitB "str" "tuple" = some false := by decide +kernel
  unfold dIsi tyName
  simp only [h]
omit [Tbs] in
theorem dIsi_si (i : Int) : dIsi "str" (.int i) = .ok (.bl false) := by
  have h : kitB "int" "str" = some false := by decide +kernel
  unfold dIsi tyName
  simp only [h]
omit [Tbs] in
theorem dIsi_sn : dIsi "str" .non = .ok (.bl false) := by
  have h : kitB "NoneType" "str" = some false := by decide +kernel
  unfold dIsi tyName
  simp only [h]
omit [Tbs] in
theorem dIsi_ss (x : Str) : dIsi "str" (.str x) = .ok (.bl true) := by
  have h : kitB "str" "str" = some true := by decide +kernel
  unfold dIsi tyName
  simp only [h]
omit [Tbs] in
theorem dIsi_in : dIsi "int" .non = .ok (.bl false) := by
  have h : kitB "NoneType" "int" = some false := by decide +kernel
  unfold dIsi tyName
  simp only [h]
omit [Tbs] in
theorem dIsi_it (ds : List D) : dIsi "int" (.tup ds) = .ok (.bl false) := by
  have h : kitB "tuple" "int" = some false := by decide +kernel
  unfold dIsi tyName
  simp only [h]
omit [Tbs] in
theorem dIsi_il (ds : List D) : dIsi "int" (.lst ds) = .ok (.bl false) := by
  have h : kitB "list" "int" = some false := by decide +kernel
  unfold dIsi tyName
  simp only [h]
omit [Tbs] in
theorem dIsi_is (x : Str) : dIsi "int" (.str x) = .ok (.bl false) := by
  have h : kitB "str" "int" = some false := by decide +kernel
  unfold dIsi tyName
  simp only [h]
omit [Tbs] in
theorem dIsi_ib (b : Bool) : dIsi "int" (.bl b) = .ok (.bl true) := by
  have h : kitB "bool" "int" = some true := by decide +kernel
  unfold dIsi tyName
  simp only [h]
omit [Tbs] in
theorem dIsi_bb (b : Bool) : dIsi "bool" (.bl b) = .ok (.bl true) := by
  have h : kitB "bool" "bool" = some true := by decide +kernel
  unfold dIsi tyName
  simp only [h]
end DL
/-! DLv: x[i], x[j] = a, b. -/
namespace DL
open PySem L2
variable [Tbs]
def setR (i : Nat) (d : D) (gi : List D → R D) : List D → R (List D) := fun ρ => gi ρ >>= fun dk => asI dk fun k => (match ρ.getD i .non with
  | .lst ds => oR (ixN ds.length k) >>= fun j => .ok (ρ.set i (.lst (ds.set j d)))
  | _ => .bad)
def gParS (i : Nat) (ga gb gi1 gi2 : List D → R D) : List D → R Fl := fun ρ => ga ρ >>= fun a => gb ρ >>= fun b => setR i a gi1 ρ >>= fun ρ1 => setR i b gi2 ρ1 >>= fun ρ2 => .ok (.nx ρ2)
section
variable {K : PySem.W.Frag} {E : XK} {X : Cx} {Γ n b c : List M} {e1 e2 ix ix2 : Expr} {t ta tb ti ti2 : TE} {m r ma mb mi mi2 : M} {ga gb gi gi2 : List D → R D} {p1 p2 p3 p4 p5 p6 pos : Pos} {k : Nat}
theorem sub_store {F0 H0 F H : Hp} {ρ : List D} {σ : St} {fps : Nat → List Addr} {i : Nat} {y : V} {d : D} {Q : St → Hp → Prop} {XX : Ex → Prop} (hi : Γ[i]? = some (.ow .fr)) (h2 : SE K E Γ ti mi gi) (rel : Rel K F0 H0 Γ ρ σ F H fps) (fy : Fz K F y d)
    (q : RP (setR i d gi ρ) (fun ρ' => ∀ F' H' fps', Same F F' → Rel K F0 H0 Γ ρ' σ F' H' fps' → Q σ H') XX) (hX : ∀ x, XX x → XP K E F H x) : gSub (tVar i) ti rSetL y σ H Q := by
  obtain ⟨v, hv, st, rv⟩ := rel.get hi (fun z => nomatch z)
  refine ⟨v, hv, ?_⟩
  refine h2.pk F0 H0 ρ σ F H fps _ rel ((RP.bind q).imp (fun dk q2 kv F2 H2 fpk x2 rvk fk => ?_) hX)
  have rel2 := rel.ext x2
  obtain ⟨kk, rfl, q3⟩ := asI_ok q2
  cases hd : ρ.getD i .non with
  | lst ds =>
    simp only [hd] at q3
    rw [hd] at rv
    obtain ⟨j, hj, q4⟩ := oR_ok (RP.bind q3)
    obtain ⟨l, vs, f1, rfl, hl, al, ef⟩ := Rv.ow_lst (rv.grow x2.f x2.h)
    obtain ⟨fz, e1⟩ := al.fr
    subst e1
    refine ⟨l, vs, kk, j, rfl, rvk.1.intOf, hl, by rw [fz.length]; exact hj, ?_⟩
    have hlm : l ∈ fps i := by rw [ef]; exact List.mem_cons_self
    refine q4 F2 _ (fun j => if j = i then [l] else fps j) x2.f (rel2.mut hi hv st hlm ⟨l, vs.set j y, [], rfl, upd_same, (fz.set j (fy.mono x2.f)).al, rfl⟩ (by simp) (fun a ha => ?_) fun jj a hjj ha hz => ?_)
    · have e : a = l := by simpa using ha
      subst e
      exact rel2.ow i a hlm
    · have e : a = l := by simpa using hz
      subst e
      exact hjj (rel2.dj jj i a ha hlm)
  | _ =>
    simp only [hd] at q3
    exact (show False from q3).elim
theorem ss_parS {i : Nat} (hi : Γ[i]? = some (.ow .fr)) (h1 : SE K E Γ ta .fr ga) (h2 : SE K E Γ tb .fr gb) (h3 : SE K E Γ ti mi gi) (h4 : SE K E Γ ti2 mi2 gi2) :
    SS K E Γ Γ b c r (tAsg (tTup (tCons ta (tCons tb tNil))) (gTup K 2 (gCons (gSub (tVar i) ti rSetL) (gCons (gSub (tVar i) ti2 rSetL) gNil)))) (gParS i ga gb gi gi2) := fun F0 H0 ρ σ F H fps N rel q => by
  refine h1 F0 H0 ρ σ F H fps _ rel ((RP.bind q).imp (fun d q1 x F1 H1 fpx x1 rvx fx => ?_) fun _ z => z.on rel.x0)
  refine h2 F0 H0 ρ σ F1 H1 fps _ (rel.ext x1) ((RP.bind q1).imp (fun d2 q2 y F2 H2 fpy x2 rvy fy => ?_) fun _ z => (z.on rel.x0).on x1)
  refine ⟨show 2 ≤ sizeLine by decide, fun p hp => ?_⟩
  have x3 : Ext F2 H2 F2 (upd H2 p (.tup [x, y])) := Ext.made x2.fh hp
  have rel3 := ((rel.ext x1).ext x2).ext x3
  refine ⟨p, [x, y], rfl, SqT.of upd_same, rfl, x, [y], rfl, ?_⟩
  refine sub_store hi h3 rel3 (rvx.1.mono x2.f) (RP.imp (RP.bind q2) (fun ρ1 q3 F4 H4 fps4 s4 rel4 => ?_) fun _ z => z) fun _ z => ((((z.on rel.x0).on x1).on x2).on x3)
  refine ⟨y, [], rfl, ?_⟩
  refine sub_store hi h4 rel4 (rvy.1.mono s4) (RP.imp (RP.bind q3) (fun ρ2 q4 F5 H5 fps5 s5 rel5 => ?_) fun _ z => z) fun _ z => z.on rel4.x0
  exact ⟨rfl, q4 σ F5 H5 fps5 (x1.f.trans (x2.f.trans (s4.trans s5))) rel5⟩
/-- x[i], x[j] = a, b -/
theorem ds_parS (i : Nat) {x : Str} {kt k2 : Nat} (U : Uni K E k X) (h1 : DE K E X Γ e1 ta .fr ga) (h2 : DE K E X Γ e2 tb .fr gb) (h3 : DE K E X Γ ix ti mi gi) (h4 : DE K E X Γ ix2 ti2 mi2 gi2) (hi : Γ[i]? = some (.ow .fr) := by rfl) (hN : X.N[i]? = some x := by rfl) (hv : Vis X.env.scope x := by first | exact Or.inl rfl | exact Or.inr (Or.inl rfl) | exact Or.inr (Or.inr rfl))
    (hd : (x == ("__debug__" : Str)) = false := by decide) (hcd : (x == ("__classdict__" : Str)) = false := by decide)
    (he : starEach [e1, e2] X.env = (false, eval e1 X.env) :: starEach [e2] X.env := by rfl) (he2 : starEach [e2] X.env = (false, eval e2 X.env) :: starEach [] X.env := by rfl)
    (pg : PE X (.Name x p1) (tVar i) → PE X ix ti → PG X (.Subscript (.Name x p1) ix p2) (gSub (tVar i) ti rSetL) := by exact fun h1 h2 => pg_sub h1 h2 set_list)
    (pg2 : PE X (.Name x p3) (tVar i) → PE X ix2 ti2 → PG X (.Subscript (.Name x p3) ix2 p4) (gSub (tVar i) ti2 rSetL) := by exact fun h1 h2 => pg_sub h1 h2 set_list)
    (pt : PG X (.Subscript (.Name x p1) ix p2) (gSub (tVar i) ti rSetL) → PG X (.Subscript (.Name x p3) ix2 p4) (gSub (tVar i) ti2 rSetL) → PG X (.Tuple [.Subscript (.Name x p1) ix p2, .Subscript (.Name x p3) ix2 p4] kt p5) (gTup X.K 2 (gCons (gSub (tVar i) ti rSetL) (gCons (gSub (tVar i) ti2 rSetL) gNil))) := by exact fun h1 h2 => pg_tup rfl (pgs_cons h1 (pgs_cons h2 pgs_nil rfl) rfl) rfl rfl)
    (ps : PE X (.Tuple [e1, e2] k2 p6) (tTup (tCons ta (tCons tb tNil))) → PG X (.Tuple [.Subscript (.Name x p1) ix p2, .Subscript (.Name x p3) ix2 p4] kt p5) (gTup X.K 2 (gCons (gSub (tVar i) ti rSetL) (gCons (gSub (tVar i) ti2 rSetL) gNil))) →
      PS X (.Assign [.Tuple [.Subscript (.Name x p1) ix p2, .Subscript (.Name x p3) ix2 p4] kt p5] (.Tuple [e1, e2] k2 p6) pos) (tAsg (tTup (tCons ta (tCons tb tNil))) (gTup X.K 2 (gCons (gSub (tVar i) ti rSetL) (gCons (gSub (tVar i) ti2 rSetL) gNil)))) := by exact fun h1 h2 => ps_asg h1 h2) :
    DS K E X Γ (.Assign [.Tuple [.Subscript (.Name x p1) ix p2, .Subscript (.Name x p3) ix2 p4] kt p5] (.Tuple [e1, e2] k2 p6) pos) (tAsg (tTup (tCons ta (tCons tb tNil))) (gTup K 2 (gCons (gSub (tVar i) ti rSetL) (gCons (gSub (tVar i) ti2 rSetL) gNil)))) Γ b c r (gParS i ga gb gi gi2) := by
  have e0 := U.K
  subst e0
  exact ⟨ps (pe_tup (pa_cons h1.pe (pa_cons h2.pe pa_nil he2) he)) (pt (pg (pe_var hN hv hd hcd) h3.pe) (pg2 (pe_var hN hv hd hcd) h4.pe)), ss_parS hi h1.se h2.se h3.se h4.se⟩
end
end DL
/-! DLw: x[i] op= e, x += a tuple, tuple * n. -/
namespace DL
open PySem PySem.Spec PyProof.Rows L2 HT
variable [Tbs]

/-! ### t += u -/
omit [Tbs] in
theorem noI_tuple_add : typeLookup (.type "tuple") (dunderI "add") = pure none := by rw [typeLookup_type, builtinLookup_eq_fast]; kernel_rfl
section
variable {prog : Program} {w : World} {A : Around} {E : Value → Shared → Prop} {s : Shared}
omit [Tbs] in
theorem iconcat_meets {T id : String} {B : Builtin} {a b : Value} {S : PySem.Spec} {Q : Value → Shared → Prop} (ha : s.TypeIs a T) (hb : s.TypeIs b T) (hno : typeLookup (.type T) (dunderI "add") = pure none)
    (hfill : fillsNumberSlot (.type T) "add" = pure false) (hseq : seqSlot? (.type T) "__add__" = pure (some (.builtin id))) (slot : Slot T "__add__" id)
    (entry : entryFor table id = some B) (args : argsOk id ⟨[a, b], []⟩) (g : Meets (B ⟨[a, b], []⟩) S) (h : S A (wants Q E) s) : wpAny (model prog w) A (inplaceOp .Add a b) Q E s :=
  wpAny_inplaceOp_concat ha hb hno hfill hseq (call_meets slot ha entry args g h)
omit [Tbs] in
theorem icat_tup {t b : Addr} {vs ws : List Value} {Q : Value → Shared → Prop} (ht : IsTup s.heap t vs.toArray) (hb : IsTup s.heap b ws.toArray)
    (h0 : vs = [] → Q (.ref b) s) (h1 : vs ≠ [] → ws = [] → Q (.ref t) s) (h2 : vs ≠ [] → ws ≠ [] → Q (.ref s.heap.objs.size) { s with heap := s.heap.push { cls := .type "tuple", data := .seq (vs ++ ws).toArray } })
    (hsz : vs.length + ws.length ≤ sizeLine) : wpAny (model prog w) A (inplaceOp .Add (.ref t) (.ref b)) Q E s := by
  obtain ⟨⟨cls, dd, data, sl⟩, ho, hc, n, hd⟩ := id ht
  obtain ⟨⟨cls2, dd2, data2, sl2⟩, ho2, hc2, n2, hd2⟩ := id hb
  simp only at hc hd hc2 hd2
  subst hc hd hc2 hd2
  have e : vs.toArray ++ ws.toArray = (vs ++ ws).toArray := by simp
  by_cases hv : vs = []
  · exact iconcat_meets ⟨_, ho, rfl⟩ ⟨_, ho2, rfl⟩ noI_tuple_add noFill_tuple_add seq_tuple_add PySem.F.slot_tuple_add PySem.F.entry_tuple_add (PySem.F.args_tuple_add_2 _ _)
      (tuple_addW0 t b vs.toArray ws.toArray n n2 dd dd2 sl sl2 (by simp [hv])) ⟨ho, ho2, h0 hv⟩
  by_cases hw : ws = []
  · exact iconcat_meets ⟨_, ho, rfl⟩ ⟨_, ho2, rfl⟩ noI_tuple_add noFill_tuple_add seq_tuple_add PySem.F.slot_tuple_add PySem.F.entry_tuple_add (PySem.F.args_tuple_add_2 _ _)
      (tuple_addW1 t b vs.toArray ws.toArray n n2 dd dd2 sl sl2 (by simpa using hv) (by simp [hw])) ⟨ho, ho2, h1 hv hw⟩
  · refine iconcat_meets ⟨_, ho, rfl⟩ ⟨_, ho2, rfl⟩ noI_tuple_add noFill_tuple_add seq_tuple_add PySem.F.slot_tuple_add PySem.F.entry_tuple_add (PySem.F.args_tuple_add_2 _ _)
      (tuple_addW2 t b vs.toArray ws.toArray n n2 dd dd2 sl sl2 (by simpa using hv) (by simpa using hw) (by rw [List.size_toArray, List.size_toArray]; exact hsz)) ⟨ho, ho2, ?_⟩
    rw [e]
    exact h2 hv hw
end
theorem iop_catA {X : Cx} : OpR X (inplaceOp .Add) (rCatA X.K) := by
  intro pins s σ H x y v u Q I rx ry h
  obtain ⟨a, b, xs, ys, rfl, rfl, ha, hb, hz, q0, q1, q2⟩ := h
  cases rx
  cases ry
  obtain ⟨its, r1, p1, _⟩ := I.tuple ha
  obtain ⟨its2, r2, p2, _⟩ := I.tuple hb
  refine icat_tup p1 p2 (fun z => ⟨.ref b, H, I, rfl, q0 (r1.nil_iff.mp z)⟩) (fun y z => ⟨.ref a, H, I, rfl, q1 (fun w => y (r1.nil_iff.mpr w)) (r2.nil_iff.mp z)⟩) (fun y z => ?_) (by rw [← r1.length, ← r2.length]; exact hz)
  refine ⟨.ref s.heap.objs.size, _, I.laid (t' := s.toks) (o := .tup (xs ++ ys)) (fun b ob q => Heap.get?_push_of_some _ q) (Nat.le_refl _) ?_, rfl, q2 (fun w => y (r1.nil_iff.mpr w)) (fun w => z (r2.nil_iff.mpr w)) _ (I.hok.fresh (Nat.le_refl _))⟩
  exact ⟨by rw [List.length_append]; exact hz, _, r1.append r2, IsTup.new _ _⟩
def dAugCat : D → D → R D
  | .tup xs, .tup ys => if xs.length + ys.length ≤ sizeLine then .ok (.tup (xs ++ ys)) else .bad
  | _, _ => .bad
omit [Tbs] in
theorem dAugCat_x : ∀ x y e, dAugCat x y ≠ .exc e := by
  intro x y e h
  cases x <;> cases y <;> simp only [dAugCat] at h <;> first | (cases h; done) | (split at h <;> cases h)
theorem so_augCat {K : PySem.W.Frag} : SO2 K (rCatA K) .fr dAugCat := by
  intro H0 F H x y dx dy Q eF e0 hx hy q
  cases dx with
  | tup xs =>
    cases dy with
    | tup ys =>
      obtain ⟨c, q⟩ := RP.ite q
      obtain ⟨a, vs, rfl, h1, h2⟩ := hx.tupOf
      obtain ⟨b, ws, rfl, h3, h4⟩ := hy.tupOf
      have l1 := h2.length
      have l2 := h4.length
      refine ⟨a, b, vs, ws, rfl, rfl, Same.sqt eF h1, Same.sqt eF h3, by omega, fun e => ?_, fun _ e => ?_, fun _ _ p hp => ?_⟩
      · subst e
        cases h2
        exact VP.old q eF (.tup h3 h4)
      · subst e
        cases h4
        rw [List.append_nil] at q
        exact VP.old q eF (.tup h1 h2)
      · exact VP.newT q eF hp (h2.append h4)
    | _ => exact (show False from q).elim
  | _ => exact (show False from q).elim
section
variable {K : PySem.W.Frag} {E : XK} {X : Cx} {Γ n b c : List M} {e ix a d : Expr} {t te ti ta tb : TE} {m r mi ma mb : M} {g gi ga gb : List D → R D} {p1 p2 pos : Pos} {k : Nat}
/-- x += e, of tuples -/
theorem ds_augCat (i : Nat) {x : Str} {mi : M} (U : Uni K E k X) (h : DE K E X Γ e te m g) (hi : Γ[i]? = some mi := by rfl) (hu : mi ≠ .un := by exact fun z => nomatch z)
    (hN : X.N[i]? = some x := by rfl) (hx : Loc X.env.scope x := by first | exact Or.inl rfl | exact Or.inr rfl) (hf : X.fn x = true ∨ X.env.scope.names.lookup x = some .local := by first | exact .inl rfl | exact .inr rfl) :
    DS K E X Γ (.AugAssign (.Name x p1) .Add e pos) (tAug i te (rCatA K)) (Γ.set i .fr) b c r (gAug i dAugCat g) := by
  have e0 := U.K
  subst e0
  exact ds_augI i U iop_catA so_augCat dAugCat_x h hi hu rfl hN hx hf
/-! ### tuple * n -/
def dTMul : D → D → R D
  | .tup xs, .int k => if xs ≠ [] ∧ 2 ≤ k ∧ k ≤ 1000 ∧ xs.length ≤ 1000 then .ok (.tup (List.replicate k.toNat xs).flatten) else .bad
  | _, _ => .bad
omit [Tbs] in
theorem dTMul_x : ∀ x y e, dTMul x y ≠ .exc e := by
  intro x y e h
  cases x <;> cases y <;> simp only [dTMul] at h <;> first | (cases h; done) | (split at h <;> cases h)
theorem so_tmul {K : PySem.W.Frag} : SO2 K (rRepT K) .fr dTMul := by
  intro H0 F H x y dx dy Q eF e0 hx hy q
  cases dx with
  | tup xs =>
    cases dy with
    | int k =>
      obtain ⟨⟨c1, c2, c3, c4⟩, q⟩ := RP.ite q
      obtain ⟨a, vs, rfl, h1, h2⟩ := hx.tupOf
      obtain rfl := hy.intOf
      have l1 := h2.length
      refine ⟨a, k, vs, rfl, rfl, Same.sqt eF h1, fun z => ?_, c2, c3, by omega, fun p hp => VP.newT q eF hp (h2.rep _)⟩
      subst z
      cases h2
      exact c1 rfl
    | _ => exact (show False from q).elim
  | _ => exact (show False from q).elim
theorem de_tmul (U : Uni K E k X) (ha : DE K E X Γ a ta ma ga) (hb : DE K E X Γ d tb mb gb) : DE K E X Γ (.BinOp a .Mult d pos) (tOp (rRepT K) ta tb) .fr (g2 dTMul ga gb) := by
  have e := U.K
  subst e
  exact DE.op op_repT so_tmul dTMul_x ha hb
/-! ### x[i] op= e -/
def rGetL : V → V → Hp → VK → Prop := fun o i H Q => ∃ p xs k j x, o = .ref p ∧ i = .int k ∧ H p = some (.lst xs) ∧ 0 ≤ k ∧ ixN xs.length k = some j ∧ xs[j]? = some x ∧ Q x H
omit [Tbs] in
theorem get_list {X : Cx} : PGet X rGetL := by
  intro pins s σ H o i ov iv Q I ro ri h
  obtain ⟨p, xs, k, j, x, rfl, rfl, hp, h0, hj, hx, q⟩ := h
  cases ro
  obtain ⟨t, rfl⟩ := ri
  obtain ⟨its, r, pl, hz⟩ := I.list (SqL.of hp)
  obtain ⟨h1, h2, h3, h4⟩ := ixN_seq hj
  obtain ⟨w, ew, rw'⟩ := r.get hx
  have hl := r.length
  have hn := line63
  have hk : k.toNat = j := by
    rw [seqIndex_of h0 h4] at h1
    exact Option.some.inj h1
  exact wpAny_getItem_list pl.isList h0 (by omega) (by rw [hk]; simpa using ew) ⟨x, H, I, rw', q⟩
def gAugI (i : Nat) (f : D → D → R D) (gi g : List D → R D) : List D → R Fl := fun ρ => gi ρ >>= fun dk => asI dk fun k => (match ρ.getD i .non with
  | .lst ds => if 0 ≤ k then oR (ixN ds.length k) >>= fun j => oR ds[j]? >>= fun x => g ρ >>= fun y => f x y >>= fun z => .ok (.nx (ρ.set i (.lst (ds.set j z)))) else .bad
  | _ => .bad)
theorem ss_augI {i : Nat} {f : D → D → R D} {rr : R2} (hi : Γ[i]? = some (.ow .fr)) (h2 : SE K E Γ ti mi gi) (h : SE K E Γ te m g) (hs : SO2 K rr .fr f) (hx : ∀ x y e, f x y ≠ .exc e) : SS K E Γ Γ b c r (tAugS (tVar i) ti te rGetL rr rSetL) (gAugI i f gi g) := fun F0 H0 ρ σ F H fps N rel q => by
  obtain ⟨v, hv, st, rv⟩ := rel.get hi (fun z => nomatch z)
  refine ⟨v, hv, ?_⟩
  refine h2.pk F0 H0 ρ σ F H fps _ rel ((RP.bind q).imp (fun dk q2 kv F2 H2 fpk x2 rvk fk => ?_) fun _ z => z.on rel.x0)
  have rel2 := rel.ext x2
  obtain ⟨kk, rfl, q3⟩ := asI_ok q2
  obtain rfl := rvk.1.intOf
  cases hd : ρ.getD i .non with
  | lst ds =>
    simp only [hd] at q3
    rw [hd] at rv
    obtain ⟨h0, q3⟩ := RP.ite q3
    obtain ⟨j, hj, q4⟩ := oR_ok (RP.bind q3)
    obtain ⟨d0, hd0, q5⟩ := oR_ok (RP.bind q4)
    have rv2 := rv.grow x2.f x2.h
    obtain ⟨l, vs, f1, rfl, hl, al, ef⟩ := Rv.ow_lst rv2
    obtain ⟨fz, e1⟩ := al.fr
    subst e1
    obtain ⟨w, hw, fw⟩ := fz.get hd0
    refine ⟨l, vs, kk, j, w, rfl, rfl, hl, h0, by rw [fz.length]; exact hj, hw, ?_⟩
    refine h.pk F0 H0 ρ σ F2 H2 fps _ rel2 ((RP.bind q5).imp (fun dy q6 y F3 H3 fpy x3 rvy fy => ?_) fun _ z => z.on rel2.x0)
    have rel3 := rel2.ext x3
    refine hs H0 F3 H3 w y d0 dy _ x3.fh rel3.h0 (.fz (fw.mono x3.f)) rvy.1 ?_
    have q7 := RP.bind q6
    cases hf : f d0 dy with
    | ok z =>
      rw [hf] at q7
      intro zv F4 H4 fpz x4 rvz fz4
      have rel4 := rel3.ext x4
      obtain ⟨l', vs', f1', e5, hl', al', ef'⟩ := Rv.ow_lst ((rv2.grow x3.f x3.h).grow x4.f x4.h)
      cases e5
      have eq := x4.h.at_ (x3.h.at_ hl)
      rw [eq] at hl'
      cases hl'
      obtain ⟨fz', e1'⟩ := al'.fr
      refine ⟨l, vs, kk, j, rfl, rfl, eq, by rw [fz.length]; exact hj, ?_⟩
      have hlm : l ∈ fps i := by rw [ef]; exact List.mem_cons_self
      refine (show FP K F0 H0 F Γ b c r N (.nx _) from q7) σ F4 _ (fun j => if j = i then [l] else fps j) (x2.f.trans (x3.f.trans x4.f)) (rel4.mut hi hv st hlm ⟨l, vs.set j zv, [], rfl, upd_same, (fz'.set j rvz.1).al, rfl⟩ (by simp) (fun a ha => ?_) fun jj a hjj ha hz => ?_)
      · have e : a = l := by simpa using ha
        subst e
        exact rel4.ow i a hlm
      · have e : a = l := by simpa using hz
        subst e
        exact hjj (rel4.dj jj i a ha hlm)
    | exc e => exact absurd hf (hx _ _ _)
    | bad => rw [hf] at q7; exact q7
  | _ =>
    simp only [hd] at q3
    exact (show False from q3).elim
theorem ds_augIx {op : Operator} {f : D → D → R D} {rr : R2} (i : Nat) {x : Str} (U : Uni K E k X) (ho : PIp X op rr) (hs : SO2 K rr .fr f) (hx : ∀ x y e, f x y ≠ .exc e) (h2 : DE K E X Γ ix ti mi gi) (h : DE K E X Γ e te m g) (hi : Γ[i]? = some (.ow .fr)) (hN : X.N[i]? = some x) (hv : Vis X.env.scope x)
    (hd : (x == ("__debug__" : Str)) = false) (hcd : (x == ("__classdict__" : Str)) = false)
    (ps : PE X (.Name x p1) (tVar i) → PE X ix ti → PGet X rGetL → PE X e te → PIp X op rr → PSet X rSetL → PS X (.AugAssign (.Subscript (.Name x p1) ix p2) op e pos) (tAugS (tVar i) ti te rGetL rr rSetL)) :
    DS K E X Γ (.AugAssign (.Subscript (.Name x p1) ix p2) op e pos) (tAugS (tVar i) ti te rGetL rr rSetL) Γ b c r (gAugI i f gi g) :=
  ⟨ps (pe_var hN hv hd hcd) h2.pe get_list h.pe ho set_list, ss_augI hi h2.se h.se hs hx⟩
theorem ds_augIXor (i : Nat) {x : Str} (U : Uni K E k X) (h2 : DE K E X Γ ix ti mi gi) (h : DE K E X Γ e te m g) (hi : Γ[i]? = some (.ow .fr) := by rfl) (hN : X.N[i]? = some x := by rfl) (hv : Vis X.env.scope x := by first | exact Or.inl rfl | exact Or.inr (Or.inl rfl) | exact Or.inr (Or.inr rfl))
    (hd : (x == ("__debug__" : Str)) = false := by decide) (hcd : (x == ("__classdict__" : Str)) = false := by decide)
    (ps : PE X (.Name x p1) (tVar i) → PE X ix ti → PGet X rGetL → PE X e te → PIp X .BitXor (rI0 fun i j => .int (Builtin.bitXor i j)) → PSet X rSetL → PS X (.AugAssign (.Subscript (.Name x p1) ix p2) .BitXor e pos) (tAugS (tVar i) ti te rGetL (rI0 fun i j => .int (Builtin.bitXor i j)) rSetL) := by exact fun h1 h2 h3 h4 h5 h6 => ps_augS h1 h2 h3 h4 h5 h6) :
    DS K E X Γ (.AugAssign (.Subscript (.Name x p1) ix p2) .BitXor e pos) (tAugS (tVar i) ti te rGetL (rI0 fun i j => .int (Builtin.bitXor i j)) rSetL) Γ b c r (gAugI i dAugBitXor gi g) :=
  ds_augIx i U iop_xor so_I0 dI0_x h2 h hi hN hv hd hcd ps
theorem ds_augIAdd (i : Nat) {x : Str} (U : Uni K E k X) (h2 : DE K E X Γ ix ti mi gi) (h : DE K E X Γ e te m g) (hi : Γ[i]? = some (.ow .fr) := by rfl) (hN : X.N[i]? = some x := by rfl) (hv : Vis X.env.scope x := by first | exact Or.inl rfl | exact Or.inr (Or.inl rfl) | exact Or.inr (Or.inr rfl))
    (hd : (x == ("__debug__" : Str)) = false := by decide) (hcd : (x == ("__classdict__" : Str)) = false := by decide)
    (ps : PE X (.Name x p1) (tVar i) → PE X ix ti → PGet X rGetL → PE X e te → PIp X .Add (rI0 fun i j => .int (i + j)) → PSet X rSetL → PS X (.AugAssign (.Subscript (.Name x p1) ix p2) .Add e pos) (tAugS (tVar i) ti te rGetL (rI0 fun i j => .int (i + j)) rSetL) := by exact fun h1 h2 h3 h4 h5 h6 => ps_augS h1 h2 h3 h4 h5 h6) :
    DS K E X Γ (.AugAssign (.Subscript (.Name x p1) ix p2) .Add e pos) (tAugS (tVar i) ti te rGetL (rI0 fun i j => .int (i + j)) rSetL) Γ b c r (gAugI i dAugAdd gi g) :=
  ds_augIx i U iop_add so_I0 dI0_x h2 h hi hN hv hd hcd ps
end
end DL
/-! DLx: raise of an own class with a text; try: x = f(v), except C as e: y = [isinstance(e, ..), ..]. -/
namespace DL
open PySem L2
variable [Tbs]

/-- an own exception class over ValueError that has no __init__ of its own -/
structure OwnX (K : PySem.W.Frag) (mg : Str → Option Value) (x : Str) (C : Addr) : Prop where
  q : PySem.W.excIn K C [.type "ValueError", .type "Exception", .type "BaseException", .type "object"] "ValueError.__new__" = true
  g : mg x = some (.ref C)
  k : PySem.W.keepIn K (.ref C) = true
  b : PySem.W.subIn K (.ref C) (.type "BaseException") = some true
  t : PySem.W.typeIn K (.ref C) = some (.type "type")
def gRaise (C : Addr) : List D → R Fl := fun _ => .exc ⟨C, []⟩
section
variable {K : PySem.W.Frag} {E : XK} {X : Cx} {Γ n b c : List M} {r m : M} {k : Nat} {pos p p2 p3 : Pos} {e : Expr} {t : TE} {g : List D → R D}
theorem ds_raise {C : Addr} {x tx : Str} {j : Nat} (U : Uni K E k X) (O : OwnX K X.mg x C) (hg : Gl X x := by rfl) (hdb : (x == ("__debug__" : Str)) = false := by decide) :
    DS K E X Γ (.Raise (some (.Call (.Name x p) [.Constant (.str tx) j p2] [] p3)) none pos) (fun _ _ H => E (.ref C) none H) n b c r (gRaise C) := by
  have e0 := U.K
  subst e0
  refine ⟨ps_raise (t := fun _ H Q => Q (.ref C) none H) U.calm U.tk (pmk_own PySem.F.excBase_ValueError O.q O.g O.k (raises_own O.b O.t) hg hdb), fun F0 H0 ρ σ F H fps N rel q => ?_⟩
  exact (show XP X.K E F0 H0 ⟨C, []⟩ from q) F H none rel.x0 (.inl ⟨rfl, rfl⟩)

/-! ### try -/
structure Ent where
  C : Addr
  d : D
  ts : Addr → TS
/-- the suite's statements, where the raised one is of the entry's class, lay its data into slot y -/
structure Hnd (X : Cx) (i y : Nat) (sts : List Stmt) (e : Ent) : Prop where
  ps : ∀ a oe pn, Zc (.ref e.C) none oe → (∃ vs, oe.data = .fields vs) → PSs (X.suite a ((a, oe) :: pn)) sts (e.ts a)
  rd : ∀ a D σ F H, Same F H → σ[i]? = some (some (.ref a)) → (∀ v F' H', Ext F H F' H' → Fz X.K F' v e.d → D.nx (σ.set y (some v)) H') → e.ts a D σ H
def tabOf (es : List Ent) : List (Addr × D) := es.map fun e => (e.C, e.d)
def gTry1 (j v y : Nat) (f : List D → R D) (tab : List (Addr × D)) : List D → R Fl := fun ρ => match f [ρ.getD v .non] with
  | .ok d => .ok (.nx (ρ.set j d))
  | .exc x => (match x.ds, tab.lookup x.cls with
    | [], some d => .ok (.nx (ρ.set y d))
    | _, _ => .bad)
  | .bad => .bad
omit [Tbs] in
theorem lookup_mem {tab : List (Addr × D)} {a : Addr} {d : D} (h : tab.lookup a = some d) : (a, d) ∈ tab := by
  induction tab with
  | nil => cases h
  | cons q tab ih =>
    obtain ⟨b, z⟩ := q
    rw [List.lookup_cons] at h
    by_cases e : a = b
    · subst e
      rw [beq_self_eq_true] at h
      cases h
      exact List.mem_cons_self
    · rw [beq_eq_false_iff_ne.mpr e] at h
      exact List.mem_cons_of_mem _ (ih h)
theorem Rel.free {F0 H0 F H : Hp} {ρ : List D} {σ : St} {fps : Nat → List Addr} {i : Nat} {z : Option V} (r : Rel K F0 H0 Γ ρ σ F H fps) (hi : Γ[i]? = some .un) : Rel K F0 H0 Γ ρ (σ.set i z) F H fps :=
  ⟨r.fh, r.f0, r.h0, r.tb, r.new, by rw [List.length_set]; exact r.lg, by rw [List.length_set]; exact r.lr, fun j => by
    by_cases e : j = i
    · subst e
      have h := r.sl j
      have hm : Γ.getD j .un = .un := by rw [List.getD_eq_getElem?_getD, hi]; rfl
      rw [hm] at h ⊢
      rcases h with h | ⟨v, _, st, _⟩
      · exact .inl h
      · cases st
    · have : (σ.set i z).getD j none = σ.getD j none := by rw [List.getD_eq_getElem?_getD, List.getD_eq_getElem?_getD, List.getElem?_set_ne (Ne.symm e)]
      rw [this]
      exact r.sl j, r.nd, r.dj, r.ow⟩
omit [Tbs] in
theorem set_self {Γ : List M} {i : Nat} {m : M} (h : Γ[i]? = some m) : Γ.set i m = Γ := by
  refine List.ext_getElem? fun j => ?_
  rw [List.getElem?_set]
  by_cases e : i = j
  · subst e
    rw [if_pos rfl, if_pos (List.getElem?_eq_some_iff.mp h).1, h]
  · rw [if_neg e]
/-- try: x = f(v) / except C as n: y = .. -/
theorem ds_try1 (j v y i : Nat) {x fx vx cx nx : Str} {f : List D → R D} {kf : Nat} {P : Addr} {es : List Ent} {sts : List Stmt} {st : Stmt} {pf pv pc pa px pn ph : Pos}
    (U : Uni K E k X) (F : FnD X.prog X.w K X.mg X.base kf fx [.fr] .fr f) (hP : X.mg cx = some (.ref P)) (hx : ∀ e ∈ es, PySem.W.exmOne K (.ref e.C) (.ref P) = some true) (hh : ∀ e ∈ es, Hnd X i y (st :: sts) e)
    (hj : Γ[j]? = some .fr := by rfl) (hv : Γ[v]? = some .fr := by rfl) (hy : Γ[y]? = some .fr := by rfl) (hi : Γ[i]? = some .un := by rfl) (hyi : y ≠ i := by decide) (hji : j ≠ i := by decide)
    (hNj : X.N[j]? = some x := by rfl) (hNv : X.N[v]? = some vx := by rfl) (hNi : X.N[i]? = some nx := by rfl) (hvv : Vis X.env.scope vx := by first | exact Or.inl rfl | exact Or.inr (Or.inl rfl) | exact Or.inr (Or.inr rfl))
    (hlj : Loc X.env.scope x := by first | exact Or.inl rfl | exact Or.inr rfl) (hln : X.env.kindOf nx = some .local := by rfl) (hk : kf ≤ k := by decide)
    (hs : X.stack = X.env :: X.outer := by rfl) (hf : X.env.frame = some X.env.locals := by rfl) (hgc : Gl X cx := by rfl) (hgf : Gl X fx := by rfl) (hdc : (cx == ("__debug__" : Str)) = false := by decide) (hdf : (fx == ("__debug__" : Str)) = false := by decide)
    (hdv : (vx == ("__debug__" : Str)) = false := by decide) (hdv2 : (vx == ("__classdict__" : Str)) = false := by decide)
    (hsw : swapsWith (.Call (.Name fx pf) [.Name vx pv] [] pc) (some (.Name x px)) pa.line X.env = pure false := by rfl) (hfn : X.fn x = true ∨ X.env.scope.names.lookup x = some .local := by first | exact .inl rfl | exact .inr rfl)
    (he : starEach [(.Name vx pv : Expr)] X.env = (false, eval (.Name vx pv) X.env) :: starEach [] X.env := by rfl) (hpl : (backTo pc (starEach [] X.env)).any (·.1) = false := by rfl) :
    DS K E X Γ (.Try [.Assign [.Name x px] (.Call (.Name fx pf) [.Name vx pv] [] pc) pa] [.ExceptHandler (some (.Name cx pn)) (some nx) (st :: sts) ph] [] [] pos)
      (fun D σ H => tAsg (tCallS (spD K [.fr] .fr f) (WE (wAs K (.ref P) i (fun a cls d => fun D σ H => ∃ e ∈ es, cls = .ref e.C ∧ d = none ∧ e.ts a D σ H) (fun cls d _ H => E cls d H) D)) (tCons (tVar v) tNil)) (gName j) D σ H) Γ b c r (gTry1 j v y f (tabOf es)) := by
  have e0 := U.K
  subst e0
  obtain ⟨fa, fd, ps, F1, F2, F3, F4⟩ := F
  refine ⟨ps_try_as (tb := fun W => tAsg (tCallS (spD X.K [.fr] .fr f) (WE W) (tCons (tVar v) tNil)) (gName j)) (ts := fun a cls d => fun D σ H => ∃ e ∈ es, cls = .ref e.C ∧ d = none ∧ e.ts a D σ H) (Wout := fun cls d _ H => E cls d H) hs hf U.nd hNi hln ⟨hgc, hdc, .inl hP⟩ U.tk (fun W pn xe tk po => ?_) (fun a oe cls d pn hz hf2 => ?_), fun F0 H0 ρ σ F H fps N rel q => ?_⟩
  · exact pss_one (ps_set (X := X.tr pn xe) U.nd hNj hlj (pe_callS (X := X.tr pn xe) (F1.mono hk) U.room hgf F2 F3 F4 (fun σ => passAt tk σ) (pa_cons (pe_var hNv hvv hdv hdv2) pa_nil he) hdf he hpl) hsw hfn)
  · refine ⟨fun pins s σ H D I h => ?_⟩
    obtain ⟨e, hm, e1, e2, q⟩ := h
    subst e1 e2
    exact ((hh e hm).ps a oe pn hz hf2).run pins s σ H D I q
  · obtain ⟨u, hu, stv, ru⟩ := rel.get hv (fun z => nomatch z)
    refine ⟨u, hu, F, [ρ.getD v .non], rel.fh, rel.tb, .cons (by obtain ⟨r1, r2⟩ := ru; exact ⟨r1, rfl⟩) .nil, ?_⟩
    have q1 : RP (gTry1 j v y f (tabOf es) ρ) (FP X.K F0 H0 F Γ b c r N) (XP X.K E F0 H0) := q
    unfold gTry1 at q1
    cases hfr : f [ρ.getD v .non] with
    | ok d =>
      rw [hfr] at q1
      intro w F2 H2 fpw x2 rvw fw
      have q2 : FP X.K F0 H0 F Γ b c r N (.nx (ρ.set j d)) := q1
      have := rel.store (m := .fr) x2 (by have := (List.getElem?_eq_some_iff.mp hj).1; exact this) rfl ⟨rvw.1, rfl⟩ Fresh.nil
      rw [set_self hj] at this
      exact q2 _ F2 H2 _ x2.f this
    | exc x =>
      rw [hfr] at q1
      intro F' H' dx ext eok
      obtain ⟨xc, xd⟩ := x
      cases xd with
      | cons z zs => exact (show False from q1).elim
      | nil =>
        cases hl : (tabOf es).lookup xc with
        | none => simp only [hl] at q1; exact (show False from q1).elim
        | some d =>
          simp only [hl] at q1
          obtain ⟨e, hem, ee⟩ := List.mem_map.mp (lookup_mem hl)
          obtain ⟨rfl, rfl⟩ : e.C = xc ∧ e.d = d := by cases ee; exact ⟨rfl, rfl⟩
          have hdx : dx = none := by
            rcases eok with ⟨h, _⟩ | ⟨h, _⟩
            · exact h
            · exact absurd rfl h
          subst hdx
          refine ⟨true, hx e hem, fun _ a ha => ⟨e, hem, rfl, rfl, ?_⟩, fun z => nomatch z⟩
          have rel1 := (rel.ext ext).free (i := i) (z := some (.ref a)) hi
          have hil : i < σ.length := by have := (List.getElem?_eq_some_iff.mp hi).1; rw [rel.lg] at this; exact this
          refine (hh e hem).rd a _ _ F' H' rel1.fh (by rw [List.getElem?_set_self hil]) fun w F2 H2 x2 fz => ?_
          have rel2 := rel1.store (m := .fr) x2 (by have := (List.getElem?_eq_some_iff.mp hy).1; exact this) rfl ⟨fz, rfl⟩ Fresh.nil
          rw [set_self hy] at rel2
          exact (show FP X.K F0 H0 F Γ b c r N (.nx (ρ.set y e.d)) from q1) _ F2 H2 _ (ext.f.trans x2.f) (rel2.free (i := i) (z := none) hi)
    | bad => rw [hfr] at q1; exact q1
theorem ent_nil {P : Ent → Prop} : ∀ e ∈ ([] : List Ent), P e := fun _ h => nomatch h
theorem ent_cons {P : Ent → Prop} {e : Ent} {es : List Ent} (h : P e) (h2 : ∀ e ∈ es, P e) : ∀ x ∈ e :: es, P x := fun x hx => by
  rcases List.mem_cons.mp hx with q | q
  · subst q; exact h
  · exact h2 x q
/-! what a suite asks of the error: isinstance by isinstance -/
structure Ats (X : Cx) (i : Nat) (C : Addr) (es : List Expr) (tr : Addr → TA) (bs : List Bool) : Prop where
  ps : ∀ a oe pn, Zc (.ref C) none oe → (∃ vs, oe.data = .fields vs) → PA (X.suite a ((a, oe) :: pn)) es (tr a)
  rd : ∀ a σ H Q, σ[i]? = some (some (.ref a)) → Q (bs.map V.bl) H → tr a σ H Q
structure At1 (X : Cx) (i : Nat) (C : Addr) (e : Expr) (t : Addr → TE) (b : Bool) : Prop where
  ps : ∀ a oe pn, Zc (.ref C) none oe → (∃ vs, oe.data = .fields vs) → PE (X.suite a ((a, oe) :: pn)) e (t a)
  rd : ∀ a σ H Q, σ[i]? = some (some (.ref a)) → Q (.bl b) H → t a σ H Q
section
variable {X : Cx} {i y : Nat} {C : Addr} {es : List Expr} {e : Expr} {tr : Addr → TA} {t : Addr → TE} {bs : List Bool} {b : Bool} {p p2 p3 pos pos' : Pos} {x n yn : Str}
theorem ats_nil : Ats X i C [] (fun _ => tNil) [] := ⟨fun _ _ _ _ _ => pa_nil, fun _ _ _ _ _ q => q⟩
theorem ats_cons (h : At1 X i C e t b) (h2 : Ats X i C es tr bs) (he : starEach (e :: es) X.env = (false, eval e X.env) :: starEach es X.env := by rfl) : Ats X i C (e :: es) (fun a => tCons (t a) (tr a)) (b :: bs) :=
  ⟨fun a oe pn hz hf => pa_cons (h.ps a oe pn hz hf) (h2.ps a oe pn hz hf) he, fun a σ H Q hs q => h.rd a σ H _ hs (h2.rd a σ H _ hs q)⟩
theorem at1_gen {v : V} {cv : Value} (hC : ExcC X.K C) (hc : ∀ a oe pn, PE (X.suite a ((a, oe) :: pn)) (.Name x p3) (tC v)) (hv : ∀ u, RelV v u → u = cv) (hk : PySem.W.kitOne X.K (.ref C) cv = some b) (hm : X.mg "isinstance" = none) (hg : Gl X "isinstance") (hNi : X.N[i]? = some n) (hvv : Vis X.env.scope n)
    (hd : (n == ("__debug__" : Str)) = false) (hcd : (n == ("__classdict__" : Str)) = false)
    (he : starEach [(.Name n p2 : Expr), .Name x p3] X.env = (false, eval (.Name n p2) X.env) :: starEach [.Name x p3] X.env) (he2 : starEach [(.Name x p3 : Expr)] X.env = (false, eval (.Name x p3) X.env) :: starEach [] X.env) (hpl : (backTo pos (starEach [(.Name x p3 : Expr)] X.env)).any (·.1) = false) :
    At1 X i C (.Call (.Name "isinstance" p) [.Name n p2, .Name x p3] [] pos) (fun a => tCB (rIsE X.K C a) (tCons (tVar i) (tCons (tC v) tNil))) b :=
  ⟨fun a oe pn hz hf => pe_callB (call_isE hC hz hf) hg hm (by decide +kernel) (pa_cons (pe_var hNi hvv hd hcd) (pa_cons (hc a oe pn) pa_nil he2) he) (by decide) (by decide) he hpl,
   fun a σ H Q hs q => ⟨_, hs, _, cv, b, rfl, hv, hk, q⟩⟩
/-- isinstance(e, c), c an own class -/
theorem at1_own {D : Addr} (hC : ExcC X.K C) (hD : X.mg x = some (.ref D)) (hk : PySem.W.kitOne X.K (.ref C) (.ref D) = some b) (bn : Bn X.mg) (hg : Gl X "isinstance" := by rfl) (hg2 : Gl X x := by rfl) (hNi : X.N[i]? = some n := by rfl) (hvv : Vis X.env.scope n := by first | exact Or.inl rfl | exact Or.inr (Or.inl rfl) | exact Or.inr (Or.inr rfl))
    (hd : (n == ("__debug__" : Str)) = false := by decide) (hcd : (n == ("__classdict__" : Str)) = false := by decide) (hd2 : (x == ("__debug__" : Str)) = false := by decide)
    (he : starEach [(.Name n p2 : Expr), .Name x p3] X.env = (false, eval (.Name n p2) X.env) :: starEach [.Name x p3] X.env := by rfl) (he2 : starEach [(.Name x p3 : Expr)] X.env = (false, eval (.Name x p3) X.env) :: starEach [] X.env := by rfl) (hpl : (backTo pos (starEach [(.Name x p3 : Expr)] X.env)).any (·.1) = false := by rfl) :
    At1 X i C (.Call (.Name "isinstance" p) [.Name n p2, .Name x p3] [] pos) (fun a => tCB (rIsE X.K C a) (tCons (tVar i) (tCons (tC (.ref D)) tNil))) b :=
  at1_gen hC (fun a oe pn => pe_glob hg2 hD rfl hd2) (fun u r => by cases r; rfl) hk bn.isinstance hg hNi hvv hd hcd he he2 hpl
/-- .. a built-in class -/
theorem at1_blt (T : String) (hC : ExcC X.K C) (hD : X.mg x = none) (hk : PySem.W.kitOne X.K (.ref C) (.type T) = some b) (hb : bootBuiltins x = some (.type T)) (bn : Bn X.mg) (hg : Gl X "isinstance" := by rfl) (hg2 : Gl X x := by rfl) (hNi : X.N[i]? = some n := by rfl) (hvv : Vis X.env.scope n := by first | exact Or.inl rfl | exact Or.inr (Or.inl rfl) | exact Or.inr (Or.inr rfl))
    (hd : (n == ("__debug__" : Str)) = false := by decide) (hcd : (n == ("__classdict__" : Str)) = false := by decide) (hd2 : (x == ("__debug__" : Str)) = false := by decide) (hn2 : x ≠ "__name__" := by decide)
    (he : starEach [(.Name n p2 : Expr), .Name x p3] X.env = (false, eval (.Name n p2) X.env) :: starEach [.Name x p3] X.env := by rfl) (he2 : starEach [(.Name x p3 : Expr)] X.env = (false, eval (.Name x p3) X.env) :: starEach [] X.env := by rfl) (hpl : (backTo pos (starEach [(.Name x p3 : Expr)] X.env)).any (·.1) = false := by rfl) :
    At1 X i C (.Call (.Name "isinstance" p) [.Name n p2, .Name x p3] [] pos) (fun a => tCB (rIsE X.K C a) (tCons (tVar i) (tCons (tC (.ty T)) tNil))) b :=
  at1_gen hC (fun a oe pn => pe_bltn (v := .ty T) hg2 hD hb rfl hn2 hd2) (fun u r => r) hk bn.isinstance hg hNi hvv hd hcd he he2 hpl
omit [Tbs] in
theorem fz_bls {K : PySem.W.Frag} {F : Hp} : ∀ bs : List Bool, FzL K F (bs.map V.bl) (bs.map D.bl)
  | [] => .nil
  | b :: bs => .cons (.bl b) (fz_bls bs)
/-- the suite: y = [isinstance(e, c), ..] -/
theorem hnd_lst (h : Ats X i C es tr bs) (hl : bs.length ≤ sizeLine) (nd : X.N.Nodup) (hNy : X.N[y]? = some yn := by rfl) (hly : Loc X.env.scope yn := by first | exact Or.inl rfl | exact Or.inr rfl) (hfn : X.fn yn = true ∨ X.env.scope.names.lookup yn = some .local := by first | exact .inl rfl | exact .inr rfl)
    (hsw : swapsWith (.List es p) (some (.Name yn p2)) pos.line X.env = pure false := by rfl) : Hnd X i y [.Assign [.Name yn p2] (.List es p) pos] ⟨C, .lst (bs.map D.bl), fun a => tAsg (tLst (tr a)) (gName y)⟩ :=
  ⟨fun a oe pn hz hf => pss_one (ps_set (X := X.suite a ((a, oe) :: pn)) nd hNy hly (pe_lst (h.ps a oe pn hz hf)) hsw hfn), fun a D σ F H eF hs q => h.rd a σ H _ hs ⟨by rw [List.length_map]; exact hl, fun q0 hq => q (.ref q0) _ _ (Ext.laid eF hq) (.lst (SqL.of upd_same) (fz_bls bs))⟩⟩
end
end
def cxOfL : List Addr → Nat → Addr
  | [], _ => 0
  | a :: _, 0 => a
  | _ :: as, n + 1 => cxOfL as n
def spT (K : PySem.W.Frag) : Sp := fun vs H Q _ => ∃ (a : Addr) (ns : List Int), vs = [.ref a] ∧ SqL K H a (ns.map V.int) ∧ ns.length ≤ 63 ∧ (∀ z ∈ ns, Builtin.Int.intBits z ≤ 1048576) ∧ TbsOk H ∧ ∀ H', Q (.bl true) H'
theorem spT_of {K : PySem.W.Frag} {f : List D → R D} (hf : ∀ ns : List Int, ns.length ≤ 63 → (∀ z ∈ ns, Builtin.Int.intBits z ≤ 1048576) → f [.lst (ns.map D.int)] = .ok (.bl true)) : ∀ vs H Q E, spT K vs H Q E → spD K [.fr] .fr f vs H Q E := fun vs H Q E ⟨a, ns, e, hS, hl, hb, tb, q⟩ => by
  subst e
  refine ⟨H, [.lst (ns.map D.int)], Same.refl _, tb, .cons ⟨.lst hS (FzL.ints ns), rfl⟩ .nil, ?_⟩
  rw [hf ns hl hb]
  intro v F' H' fp x rv fr
  rw [(Bo.fz (H := H') rv.1).blOf]
  exact q H'
omit [Tbs] in
theorem walk_lawX {l : PySem.W.OpenLaw} {k : Nat} {q : Program} {loose : List Str} {XP : (Str → Option Value) → Heap → Prop} {YP : World → Heap → Prop} {d : DefRec} {K : Params → PySem.W.Frag} {x : Str}
    (hn : l.most = some 63) (hdf : d.params.defaults = []) (hr : Room k callerA) (hY : ∀ (w : World) (h : Heap), YP w h → (K w.params).In h)
    (F : ∀ (w : World) (mg : Str → Option Value) (fa : Addr) (h : Heap), (K w.params).In h → h.Ns mainGlobals mg → mg d.name = some (.ref fa) →
      ∃ fd : FuncData, (∀ (s : Shared) (u : Value), BindsTo s fd ⟨[u], []⟩ [(x, u)]) ∧
        ∀ base : Heap, (K w.params).In base → base.Ns mainGlobals mg → FnOk l.prog w (K w.params) mg base (L2.CX l.prog w) k fa fd [x] (@spT noTbs (K w.params))) :
    PySem.W.WalkO q loose XP YP l.row.toRowW d [] (fun f vs => PySem.call f vs) :=
  L2.walk_ofB (n := 63) (k := k) (x := x) (CX := fun w => L2.CX l.prog w) (sp := fun w => @spT noTbs (K w.params)) hn (by decide) hdf hr hY F
    (fun w H a ns hl hb ho hS => ⟨a, ns, rfl, hS, hl, hb, (fun _ hp => nomatch hp), fun _ => rfl⟩) fun w H s e s' h => by
        obtain ⟨_, _, _, _, _, _, _, _, _, _, _, _, z⟩ := h
        exact z
end DL
/-! DLy: in, not in (flat items); a module's constant tuples. -/
namespace DL
open PySem L2
variable [Tbs]

def flatD : D → Bool
  | .non => true
  | .bl _ => true
  | .int _ => true
  | .str _ => true
  | _ => false
def toV : D → V
  | .non => .non
  | .bl b => .bl b
  | .int i => .int i
  | .str x => .str x
  | _ => .non
section
variable {K : PySem.W.Frag} {H F : Hp}
omit [Tbs] in
theorem Bo.toV {v : V} {d : D} (h : Bo K H F v d) (f : flatD d = true) : v = toV d ∧ flatV v = true := by
  cases d with
  | non => obtain rfl := h.nonOf; exact ⟨rfl, rfl⟩
  | bl b => obtain rfl := h.blOf; exact ⟨rfl, rfl⟩
  | int i => obtain rfl := h.intOf; exact ⟨rfl, rfl⟩
  | str x => obtain rfl := h.strOf; exact ⟨rfl, rfl⟩
  | _ => cases f
omit [Tbs] in
theorem BoL.toV : ∀ {vs : List V} {ds : List D}, BoL K H F vs ds → ds.all flatD = true → vs = ds.map toV ∧ vs.all flatV = true
  | _, _, .nil, _ => ⟨rfl, rfl⟩
  | _, _, .cons h hs, f => by
    rw [List.all_cons, Bool.and_eq_true] at f
    obtain ⟨h1, h2⟩ := h.toV f.1
    obtain ⟨h3, h4⟩ := BoL.toV hs f.2
    exact ⟨by rw [List.map_cons, ← h1, ← h3], by rw [List.all_cons, h2, h4]; rfl⟩
end
def dInG (neg : Bool) : D → D → R D
  | x, .tup ds => if flatD x = true ∧ ds.all flatD = true then .ok (.bl (if neg then !inV (toV x) (ds.map toV) else inV (toV x) (ds.map toV))) else .bad
  | x, .lst ds => if flatD x = true ∧ ds.all flatD = true then .ok (.bl (if neg then !inV (toV x) (ds.map toV) else inV (toV x) (ds.map toV))) else .bad
  | _, _ => .bad
def dIn : D → D → R D := dInG false
def dNotIn : D → D → R D := dInG true
omit [Tbs] in
theorem dInG_x {neg : Bool} : ∀ x y e, dInG neg x y ≠ .exc e := by
  intro x y e h
  cases y <;> simp only [dInG] at h <;> first | (cases h; done) | (split at h <;> cases h)
theorem so_inG {K : PySem.W.Frag} {neg : Bool} : SO2 K (rIn K neg) .fr (dInG neg) := by
  intro H0 F H x y dx dy Q eF e0 hx hy q
  cases dy with
  | tup ds =>
    obtain ⟨⟨c1, c2⟩, q⟩ := RP.ite q
    obtain ⟨a, vs, rfl, h1, h2⟩ := hy.tupOf
    obtain ⟨rfl, f1⟩ := hx.toV c1
    obtain ⟨rfl, f2⟩ := (h2.bo (H := H)).toV c2
    exact ⟨a, _, rfl, .inr (Same.sqt eF h1), f1, f2, VP.old q eF (.bl _)⟩
  | lst ds =>
    obtain ⟨⟨c1, c2⟩, q⟩ := RP.ite q
    obtain ⟨a, vs, rfl, h1, h2⟩ := hy.listOf eF
    obtain ⟨rfl, f1⟩ := hx.toV c1
    obtain ⟨rfl, f2⟩ := h2.toV c2
    exact ⟨a, _, rfl, .inl h1, f1, f2, VP.old q eF (.bl _)⟩
  | _ => exact (show False from q).elim
section
variable {K : PySem.W.Frag} {E : XK} {X : Cx} {Γ : List M} {a b : Expr} {ta tb : TE} {ma mb : M} {ga gb : List D → R D} {pos : Pos} {k : Nat}
theorem de_in (U : Uni K E k X) (ha : DE K E X Γ a ta ma ga) (hb : DE K E X Γ b tb mb gb) (hm : behindInMarks .In b = false := by with_unfolding_all rfl) : DE K E X Γ (.Compare a [.In] [b] pos) (tOp (rIn K false) ta tb) .fr (g2 dIn ga gb) := by
  have e := U.K
  subst e
  exact DE.cmp op_in_seq so_inG dInG_x hm ha hb
theorem de_nin (U : Uni K E k X) (ha : DE K E X Γ a ta ma ga) (hb : DE K E X Γ b tb mb gb) (hm : behindInMarks .NotIn b = false := by with_unfolding_all rfl) : DE K E X Γ (.Compare a [.NotIn] [b] pos) (tOp (rIn K true) ta tb) .fr (g2 dNotIn ga gb) := by
  have e := U.K
  subst e
  exact DE.cmp op_notIn_seq so_inG dInG_x hm ha hb
theorem dt_in (U : Uni K E k X) (ha : DE K E X Γ a ta ma ga) (hb : DE K E X Γ b tb mb gb) (hm : behindInMarks .In b = false := by with_unfolding_all rfl) : DT K E X Γ (.Compare a [.In] [b] pos) (tTest (tOp (rIn K false) ta tb)) (gB (g2 dIn ga gb)) := by
  have e := U.K
  subst e
  exact DT.cmp op_in_seq so_inG dInG_x hm ha hb
theorem dt_nin (U : Uni K E k X) (ha : DE K E X Γ a ta ma ga) (hb : DE K E X Γ b tb mb gb) (hm : behindInMarks .NotIn b = false := by with_unfolding_all rfl) : DT K E X Γ (.Compare a [.NotIn] [b] pos) (tTest (tOp (rIn K true) ta tb)) (gB (g2 dNotIn ga gb)) := by
  have e := U.K
  subst e
  exact DT.cmp op_notIn_seq so_inG dInG_x hm ha hb
end
/-! ### lists of any frozen items, added -/
def dAddL : D → D → R D
  | .lst xs, .lst ys => if xs.length + ys.length ≤ sizeLine then .ok (.lst (xs ++ ys)) else .bad
  | _, _ => .bad
section
variable {K : PySem.W.Frag} {E : XK} {X : Cx} {Γ : List M} {a b : Expr} {ta tb : TE} {ma mb : M} {ga gb : List D → R D} {pos : Pos} {k : Nat}
theorem se_addL (ha : SE K E Γ ta .fr ga) (hb : SE K E Γ tb .fr gb) : SE K E Γ (tOp (rAddD K) ta tb) (.ow .fr) (g2 dAddL ga gb) := fun F0 H0 ρ σ F H fps Q r q => by
  refine ha F0 H0 ρ σ F H fps _ r ((RP.bind q).imp (fun dx q1 x F1 H1 fp1 e1 rv1 f1 => ?_) fun _ z => z)
  refine hb F0 H0 ρ σ F1 H1 fps _ (r.ext e1) ((RP.bind q1).imp (fun dy q2 y F2 H2 fp2 e2 rv2 f2 => ?_) fun _ z => z.on e1)
  cases dx with
  | lst xs =>
    cases dy with
    | lst ys =>
      obtain ⟨c, q3⟩ := RP.ite q2
      have eF := e2.fh
      have w1 := rv1.1.mono e2.f
      have w2 := rv2.1
      obtain ⟨a, vs, rfl, h1, h2⟩ : ∃ a vs, x = .ref a ∧ SqL K F2 a vs ∧ FzL K F2 vs xs := by
        cases w1 with
        | lst h hs => exact ⟨_, _, rfl, h, hs⟩
      obtain ⟨b, ws, rfl, h3, h4⟩ : ∃ a vs, y = .ref a ∧ SqL K F2 a vs ∧ FzL K F2 vs ys := by
        cases w2 with
        | lst h hs => exact ⟨_, _, rfl, h, hs⟩
      have l1 := h2.length
      have l2 := h4.length
      exact .inr (.inr (.inr (.inr ⟨a, b, vs, ws, rfl, rfl, eF.seq h1, eF.seq h3, by omega, fun p hp => VP.newL ((show VP K H0 F H _ _ Q from q3).on (e1.trans e2)) eF hp (h2.append h4)⟩)))
    | _ => exact (show False from q2).elim
  | _ => exact (show False from q2).elim
theorem de_addL (U : Uni K E k X) (ha : DE K E X Γ a ta .fr ga) (hb : DE K E X Γ b tb .fr gb) : DE K E X Γ (.BinOp a .Add b pos) (tOp (rAddD K) ta tb) (.ow .fr) (g2 dAddL ga gb) := by
  have e := U.K
  subst e
  exact ⟨pe_op op_addD ha.pe hb.pe, se_addL ha.se hb.se⟩
end
/-! ### constants -/
def CsV (K : PySem.W.Frag) (u : Value) (v : V) (d : D) : Prop := RelV v u ∧ ∀ F : Hp, Fz K F v d
inductive CsL (K : PySem.W.Frag) : List Value → List V → List D → Prop
  | nil : CsL K [] [] []
  | cons {u : Value} {v : V} {d : D} {us : List Value} {vs : List V} {ds : List D} : CsV K u v d → CsL K us vs ds → CsL K (u :: us) (v :: vs) (d :: ds)
omit [Tbs] in
theorem CsV.int {K : PySem.W.Frag} {i : Int} {t : Tok} : CsV K (.int i t) (.int i) (.int i) := ⟨⟨t, rfl⟩, fun _ => .int i⟩
omit [Tbs] in
theorem CsV.str {K : PySem.W.Frag} {z : Str} {t : Tok} : CsV K (.str z t) (.str z) (.str z) := ⟨⟨t, rfl⟩, fun _ => .str z⟩
omit [Tbs] in
theorem CsL.of {K : PySem.W.Frag} : ∀ {us : List Value} {vs : List V} {ds : List D}, CsL K us vs ds → Vals vs us ∧ ∀ F : Hp, FzL K F vs ds
  | _, _, _, .nil => ⟨.nil, fun _ => .nil⟩
  | _, _, _, .cons h hs => ⟨.cons h.1 (CsL.of hs).1, fun F => .cons (h.2 F) ((CsL.of hs).2 F)⟩
omit [Tbs] in
theorem CsV.tup {K : PySem.W.Frag} {a : Addr} {od : Option Addr} {its : List Value} {n : Nat} {sl : Array (Option Value)} {vs : List V} {ds : List D} (h : K.lookup a = some ⟨.type "tuple", od, .seq its.toArray n, sl⟩) (hl : its.length ≤ 1000) (hs : CsL K its vs ds) : CsV K (.ref a) (.ref a) (.tup ds) :=
  ⟨rfl, fun F => .tup (.inr ⟨_, its.toArray, n, h, rfl, rfl, by rw [List.size_toArray, sizeLine_eq]; omega, hs.of.1⟩) (hs.of.2 F)⟩
omit [Tbs] in
theorem Cst.of {K : PySem.W.Frag} {mg : Str → Option Value} {x : Str} {u : Value} {v : V} {d : D} (h : mg x = some u) (c : CsV K u v d) : Cst K mg x v d := ⟨u, h, c.1, c.2⟩
end DL
/-! DLz: tuple * n for any small n; x is True, x is False. -/
namespace DL
open PySem PySem.Spec PyProof.Rows L2
variable [Tbs]
omit [Tbs] in
theorem tmul_none (l : Addr) (items : Array Value) (n : Nat) (dd : Option Addr) (sl : Array (Option Value)) (x : Int) (u : Tok) (c0 : (decide (x < -(2 ^ 63)) || decide (x ≥ 2 ^ 63)) = false) (c1 : (items.isEmpty || x == 1) = false) (c2 : (decide (x ≤ 0) || items.isEmpty) = true) :
    Meets (Builtin.«tuple.__mul__» ⟨[.ref l, .int x u], []⟩) (fun _ R s => s.heap.get? l = some { cls := .type "tuple", dict := dd, data := .seq items n, slots := sl } ∧
      R (.ok (.ret (Value.ref s.heap.objs.size))) { s with heap := s.heap.push { cls := Value.type "tuple", data := Data.seq #[] }, toks := s.toks }) :=
  .of_wp fun prog w A R s h => by
    obtain ⟨hp, g, d, tk, os⟩ := s
    obtain ⟨hl, h⟩ := h
    have f1 := AutoSeq1.idx_int
    wp_walk using wpAny_loadPart' hl
    repeat (first
      | (refine wpAny_ite_false (decide_eq_false (by rw [c0]; exact Bool.false_ne_true)) ?_; wp_walk using wpAny_loadPart' hl)
      | (refine wpAny_ite_false (decide_eq_false (by rw [c1]; exact Bool.false_ne_true)) ?_; wp_walk using wpAny_loadPart' hl)
      | (refine wpAny_ite_true (decide_eq_true c2) ?_; wp_walk using wpAny_loadPart' hl))
    exact ⟨_, rfl, h⟩
omit [Tbs] in
theorem tmul_one (l : Addr) (items : Array Value) (n : Nat) (dd : Option Addr) (sl : Array (Option Value)) (x : Int) (u : Tok) (c0 : (decide (x < -(2 ^ 63)) || decide (x ≥ 2 ^ 63)) = false) (c1 : (items.isEmpty || x == 1) = true) :
    Meets (Builtin.«tuple.__mul__» ⟨[.ref l, .int x u], []⟩) (fun _ R s => s.heap.get? l = some { cls := .type "tuple", dict := dd, data := .seq items n, slots := sl } ∧
      R (.ok (.ret (Value.ref l))) s) :=
  .of_wp fun prog w A R s h => by
    obtain ⟨hp, g, d, tk, os⟩ := s
    obtain ⟨hl, h⟩ := h
    have f1 := AutoSeq1.idx_int
    wp_walk using wpAny_loadPart' hl
    repeat (first
      | (refine wpAny_ite_false (decide_eq_false (by rw [c0]; exact Bool.false_ne_true)) ?_; wp_walk using wpAny_loadPart' hl)
      | (refine wpAny_ite_true (decide_eq_true c1) ?_; wp_walk using wpAny_loadPart' hl))
    exact ⟨_, rfl, h⟩
/-- t * n, n any small number -/
def rRepA (K : PySem.W.Frag) : R2 := fun x y H Q => rRepT K x y H Q ∨ ∃ l k xs, x = .ref l ∧ y = .int k ∧ SqT K H l xs ∧ xs ≠ [] ∧ -1000 ≤ k ∧ k ≤ 1 ∧ (k = 1 → Q (.ref l) H) ∧ (k ≤ 0 → ∀ p, H p = none → Q (.ref p) (upd H p (.tup [])))
theorem op_repA {X : Cx} : OpR X (binaryOp .Mult) (rRepA X.K) := by
  intro pins s σ H x y v u Q I rx ry h
  rcases h with h | h
  · exact op_repT pins s σ H x y v u Q I rx ry h
  obtain ⟨l, k, xs, rfl, rfl, hT, hne, h1, h2, q1, q2⟩ := h
  cases rx
  obtain ⟨t, rfl⟩ := ry
  obtain ⟨its, r, ⟨⟨cls, dd, data, sl⟩, ho, hc, n, hd⟩, hs⟩ := I.tuple hT
  simp only at hc hd
  subst hc hd
  have hle : its.length = xs.length := r.length.symm
  have hi : its.toArray.isEmpty = false := by
    cases its with
    | nil => exact absurd (List.eq_nil_of_length_eq_zero hle.symm) hne
    | cons a b => rfl
  have c0 : (decide (k < -(2 ^ 63)) || decide (k ≥ 2 ^ 63)) = false := by
    rw [decide_eq_false (by omega), decide_eq_false (by omega)] <;> rfl
  by_cases hk : k = 1
  · subst hk
    exact wpAny_binaryOp_repeat_ref (T := "tuple") (U := "int") (by decide) ⟨_, ho, rfl⟩ (fun s' => typeIs_int s' 1 t) noFill_tuple_mul PySem.F.fills_int_mul PySem.F.slot_int_rmul repeat_tuple PySem.F.slot_int_index.lookup
      (call_meets PySem.F.slot_int_rmul (typeIs_int s 1 t) PySem.F.entry_int_rmul (PySem.F.args_int_rmul_2 _ _) (int_rmul_tuple 1 t l its.toArray n dd sl)
        ⟨ho, rfl, ⟨_, ho, rfl⟩, call_meets PySem.F.slot_tuple_mul ⟨_, ho, rfl⟩ PySem.F.entry_tuple_mul (PySem.F.args_tuple_mul_2 _ _) (tmul_one l its.toArray n dd sl 1 t c0 (by rw [hi]; rfl)) ⟨ho, ⟨.ref l, H, I, rfl, q1 rfl⟩⟩⟩)
  · have c1 : (its.toArray.isEmpty || k == 1) = false := by
      rw [hi, Bool.false_or]
      exact beq_eq_false_iff_ne.mpr hk
    have c2 : (decide (k ≤ 0) || its.toArray.isEmpty) = true := by
      rw [decide_eq_true (show k ≤ 0 by omega)]
      rfl
    refine wpAny_binaryOp_repeat_ref (T := "tuple") (U := "int") (by decide) ⟨_, ho, rfl⟩ (fun s' => typeIs_int s' k t) noFill_tuple_mul PySem.F.fills_int_mul PySem.F.slot_int_rmul repeat_tuple PySem.F.slot_int_index.lookup
      (call_meets PySem.F.slot_int_rmul (typeIs_int s k t) PySem.F.entry_int_rmul (PySem.F.args_int_rmul_2 _ _) (int_rmul_tuple k t l its.toArray n dd sl)
        ⟨ho, rfl, ⟨_, ho, rfl⟩, call_meets PySem.F.slot_tuple_mul ⟨_, ho, rfl⟩ PySem.F.entry_tuple_mul (PySem.F.args_tuple_mul_2 _ _) (tmul_none l its.toArray n dd sl k t c0 c1 c2) ⟨ho, ?_⟩⟩)
    exact ⟨.ref s.heap.objs.size, _, I.laid (t' := s.toks) (o := .tup []) (fun b ob q => Heap.get?_push_of_some _ q) (Nat.le_refl _) ⟨Nat.zero_le _, [], .nil, IsTup.new _ _⟩, rfl, q2 (by omega) _ (I.hok.fresh (Nat.le_refl _))⟩
def dTMulA : D → D → R D
  | .tup xs, .int k => if xs ≠ [] ∧ -1000 ≤ k ∧ k ≤ 1000 ∧ xs.length ≤ 1000 then .ok (.tup (List.replicate k.toNat xs).flatten) else .bad
  | _, _ => .bad
omit [Tbs] in
theorem dTMulA_x : ∀ x y e, dTMulA x y ≠ .exc e := by
  intro x y e h
  cases x <;> cases y <;> simp only [dTMulA] at h <;> first | (cases h; done) | (split at h <;> cases h)
theorem so_tmulA {K : PySem.W.Frag} : SO2 K (rRepA K) .fr dTMulA := by
  intro H0 F H x y dx dy Q eF e0 hx hy q
  cases dx with
  | tup xs =>
    cases dy with
    | int k =>
      obtain ⟨⟨c1, c2, c3, c4⟩, q⟩ := RP.ite q
      obtain ⟨a, vs, rfl, h1, h2⟩ := hx.tupOf
      obtain rfl := hy.intOf
      have l1 := h2.length
      have hne : vs ≠ [] := fun z => by
        subst z
        cases h2
        exact c1 rfl
      by_cases hk : 2 ≤ k
      · exact .inl ⟨a, k, vs, rfl, rfl, Same.sqt eF h1, hne, hk, c3, by omega, fun p hp => VP.newT q eF hp (h2.rep _)⟩
      · refine .inr ⟨a, k, vs, rfl, rfl, Same.sqt eF h1, hne, c2, by omega, fun e => ?_, fun e p hp => ?_⟩
        · subst e
          have : (List.replicate (1 : Int).toNat xs).flatten = xs := by simp
          rw [this] at q
          exact VP.old q eF (.tup h1 h2)
        · have : (List.replicate k.toNat xs).flatten = [] := by rw [show k.toNat = 0 by omega]; rfl
          rw [this] at q
          exact VP.newT q eF hp .nil
    | _ => exact (show False from q).elim
  | _ => exact (show False from q).elim
/-- x is True, x is False -/
def dIsB : D → D → R D
  | .bl a, .bl b => .ok (.bl (a == b))
  | _, _ => .bad
omit [Tbs] in
theorem dIsB_x : ∀ x y e, dIsB x y ≠ .exc e := by
  intro x y e h
  cases x <;> cases y <;> exact nomatch h
def rIsB : R2 := fun x y H Q => ∃ a b, x = .bl a ∧ y = .bl b ∧ Q (.bl (a == b)) H
omit [Tbs] in
theorem op_isB {X : Cx} : OpR X (compareOp .Is) rIsB := by
  intro pins s σ H x y v u Q I rx ry h
  obtain ⟨a, b, rfl, rfl, q⟩ := h
  cases rx
  cases ry
  exact is_bool ⟨.bl (a == b), H, I, rfl, q⟩
theorem so_isB {K : PySem.W.Frag} : SO2 K rIsB .fr dIsB := by
  intro H0 F H x y dx dy Q eF e0 hx hy q
  cases dx with
  | bl i =>
    obtain rfl := hx.blOf
    cases dy with
    | bl j =>
      obtain rfl := hy.blOf
      exact ⟨i, j, rfl, rfl, VP.old q eF (.bl _)⟩
    | _ => exact (show False from q).elim
  | _ => exact (show False from q).elim
section
variable {K : PySem.W.Frag} {E : XK} {X : Cx} {Γ : List M} {a b : Expr} {ta tb : TE} {ma mb : M} {ga gb : List D → R D} {pos : Pos} {k : Nat}
theorem de_tmulA (U : Uni K E k X) (ha : DE K E X Γ a ta ma ga) (hb : DE K E X Γ b tb mb gb) : DE K E X Γ (.BinOp a .Mult b pos) (tOp (rRepA K) ta tb) .fr (g2 dTMulA ga gb) := by
  have e := U.K
  subst e
  exact DE.op op_repA so_tmulA dTMulA_x ha hb
theorem de_isB (ha : DE K E X Γ a ta ma ga) (hb : DE K E X Γ b tb mb gb) : DE K E X Γ (.Compare a [.Is] [b] pos) (tOp rIsB ta tb) .fr (g2 dIsB ga gb) := DE.cmp op_isB so_isB dIsB_x (nomark _) ha hb
theorem dt_isB (ha : DE K E X Γ a ta ma ga) (hb : DE K E X Γ b tb mb gb) : DT K E X Γ (.Compare a [.Is] [b] pos) (tTest (tOp rIsB ta tb)) (gB (g2 dIsB ga gb)) := DT.cmp op_isB so_isB dIsB_x (nomark _) ha hb
end
end DL
/-! DLfv: defs as values: the name of a def handed on; a call of a local name that holds one of several defs. -/
namespace DL
open PySem L2
variable [Tbs]

/-- the def at a keeps that promise -/
def FnA (P : Program) (w : World) (K : PySem.W.Frag) (mg : Str → Option Value) (base : Heap) (k : Nat) (a : Addr) (ms : List M) (mr : M) (f : List D → R D) : Prop :=
  ∃ fd ps, FnOk P w K mg base (L2.CX P w) k a fd ps (spD K ms mr f) ∧ PySem.W.keepIn K (.ref a) = true ∧ Binds K fd ps []
theorem FnA.toD {P : Program} {w : World} {K : PySem.W.Frag} {mg : Str → Option Value} {base : Heap} {k : Nat} {a : Addr} {ms : List M} {mr : M} {f : List D → R D} {x : Str} (h : FnA P w K mg base k a ms mr f) (hm : mg x = some (.ref a)) : FnD P w K mg base k x ms mr f := by
  obtain ⟨fd, ps, h1, h2, h3⟩ := h
  exact ⟨a, fd, ps, h1, hm, h2, h3⟩
def gCallV (i : Nat) (tab : List (Addr × (List D → R D))) (gr : List D → R (List D)) : List D → R D := fun ρ => match ρ.getD i .non with
  | .cl a => (match tab.lookup a with
    | some f => gr ρ >>= f
    | none => .bad)
  | _ => .bad
omit [Tbs] in
theorem lookup_memF {α : Type} {tab : List (Addr × α)} {a : Addr} {d : α} (h : tab.lookup a = some d) : (a, d) ∈ tab := by
  induction tab with
  | nil => cases h
  | cons q tab ih =>
    obtain ⟨b, z⟩ := q
    rw [List.lookup_cons] at h
    by_cases e : a = b
    · subst e
      rw [beq_self_eq_true] at h
      cases h
      exact List.mem_cons_self
    · rw [beq_eq_false_iff_ne.mpr e] at h
      exact List.mem_cons_of_mem _ (ih h)
omit [Tbs] in
theorem tab_nil {P : Addr × (List D → R D) → Prop} : ∀ q ∈ ([] : List (Addr × (List D → R D))), P q := fun _ h => nomatch h
omit [Tbs] in
theorem tab_cons {P : Addr × (List D → R D) → Prop} {q : Addr × (List D → R D)} {t : List (Addr × (List D → R D))} (h : P q) (h2 : ∀ q ∈ t, P q) : ∀ z ∈ q :: t, P z := fun z hz => by
  rcases List.mem_cons.mp hz with e | e
  · subst e; exact h
  · exact h2 z e
section
variable {K : PySem.W.Frag} {E : XK} {X : Cx} {Γ : List M} {e : Expr} {es : List Expr} {tr : TA} {mr : M} {ms : List M} {gr : List D → R (List D)} {pos p : Pos} {i j k : Nat} {x : Str} {tab : List (Addr × (List D → R D))}
/-- a def's name as a value -/
theorem de_fn {a : Addr} (hm : X.mg x = some (.ref a)) (hg : Gl X x := by rfl) (hd : (x == ("__debug__" : Str)) = false := by decide) : DE K E X Γ (.Name x p) (tC (.ref a)) .fr (gc (.cl a)) := de_glob hm rfl (fun _ => .cl a) hg hd
def tCallW (i : Nat) (K : PySem.W.Frag) (ms : List M) (mr : M) (tab : List (Addr × (List D → R D))) (E : XK) (t : TA) : TE := fun σ H Q => ∃ q ∈ tab, σ[i]? = some (some (.ref q.1)) ∧ t σ H fun vs H1 => spD K ms mr q.2 vs H1 Q E
theorem pe_callW (hT : ∀ q ∈ tab, FnA X.prog X.w X.K X.mg X.base j q.1 ms mr q.2) (hr : Room k X.A) (hj : j ≤ k) (hx : Passes (L2.CX X.prog X.w) X E) (hN : X.N[i]? = some x) (hv : Vis X.env.scope x) (ha : PA X (e :: es) tr)
    (hd : (x == ("__debug__" : Str)) = false) (hcd : (x == ("__classdict__" : Str)) = false) (he : starEach (e :: es) X.env = (false, eval e X.env) :: starEach es X.env) (hpl : (backTo pos (starEach es X.env)).any (·.1) = false) :
    PE X (.Call (.Name x p) (e :: es) [] pos) (tCallW i X.K ms mr tab E tr) := by
  refine ⟨fun pins s σ H Q I h => ?_⟩
  obtain ⟨q, hq, hs, ht⟩ := h
  obtain ⟨fd, ps, F, kp, b⟩ := hT q hq
  refine wpAny_Call_Name_kw (thn ((pe_var (pos := p) hN hv hd hcd).run pins s σ H (fun v H1 => v = .ref q.1 ∧ H1 = H) I ⟨.ref q.1, hs, rfl, rfl⟩) fun u s1 ⟨v, H1, I1, r1, q1⟩ => ?_)
  obtain ⟨rfl, rfl⟩ := q1
  cases r1
  refine PySem.W.callWith_K (h₀ := X.base) I.ok.mod.kin kp (thn (ha.run pos pins s1 σ _ _ I1 ht) fun us s2 ⟨vs, H2, I2, r, q⟩ => ⟨I2.kIn, ?_⟩) he hpl
  exact run_fn (F.mono hj) hr b .nil hx I2 r (by rw [List.append_nil]; exact q)
theorem se_callW (hi : Γ[i]? = some .fr) (h : SA K E Γ tr ms gr) (hr : mr.fz = true) (hm : ∀ m ∈ ms, m = .fr ∨ m = .pk) : SE K E Γ (tCallW i K ms mr tab E tr) mr (gCallV i tab gr) := fun F0 H0 ρ σ F H fps Q r q => by
  obtain ⟨v, hv, st, rv⟩ := r.get hi (fun z => nomatch z)
  unfold gCallV at q
  cases hd : ρ.getD i .non with
  | cl a =>
    rw [hd] at q rv
    have hva : v = .ref a := by
      have := rv.1
      cases this
      rfl
    subst hva
    cases hl : tab.lookup a with
    | some f =>
      simp only [hl] at q
      refine ⟨(a, f), lookup_memF hl, hv, ?_⟩
      refine h F0 H0 ρ σ F H fps _ r ((RP.bind q).imp (fun ds hd vs F' H' x rv => ?_) fun _ z => z)
      exact ⟨F', ds, x.fh, x.tb r.tb, rv.base hm, hd.imp (fun d hd => VP.base hr (VP.on hd x)) fun _ z => z.on x⟩
    | none => simp only [hl] at q; exact (show False from q).elim
  | _ => rw [hd] at q; exact (show False from q).elim
/-- x(e, ..), x a local name that holds one of the defs of the table -/
theorem de_callV (i : Nat) (U : Uni K E k X) (hT : ∀ q ∈ tab, FnA X.prog X.w K X.mg X.base j q.1 ms mr q.2) (ha : DA K E X Γ (e :: es) tr ms gr) (hi : Γ[i]? = some .fr := by rfl) (hj : j ≤ k := by decide) (hr : mr.fz = true := by rfl) (hm : ∀ m ∈ ms, m = .fr ∨ m = .pk := by simp)
    (hN : X.N[i]? = some x := by rfl) (hv : Vis X.env.scope x := by first | exact Or.inl rfl | exact Or.inr (Or.inl rfl) | exact Or.inr (Or.inr rfl)) (hd : (x == ("__debug__" : Str)) = false := by decide) (hcd : (x == ("__classdict__" : Str)) = false := by decide)
    (he : starEach (e :: es) X.env = (false, eval e X.env) :: starEach es X.env := by rfl) (hpl : (backTo pos (starEach es X.env)).any (·.1) = false := by rfl) :
    DE K E X Γ (.Call (.Name x p) (e :: es) [] pos) (tCallW i K ms mr tab E tr) mr (gCallV i tab gr) := by
  have e0 := U.K
  subst e0
  exact ⟨pe_callW hT U.room hj U.pass hN hv ha.pa hd hcd he hpl, se_callW hi ha.sa hr hm⟩
end
end DL
/-! DLss: slices of tuples with a step: t[lo:hi:c]. -/
namespace DL
open PySem PySem.Spec PyProof.Rows L2 HT
variable [Tbs]
/-- where such a slice begins, how many places it has -/
def stepA (n : Nat) (lo hi : Option Int) (c : Int) : Int := (Builtin.Slice.sliceAdjust lo hi c (n : Int)).1
def stepN (n : Nat) (lo hi : Option Int) (c : Int) : Nat := Builtin.Slice.slicePlaces (Builtin.Slice.sliceAdjust lo hi c (n : Int)).1 (Builtin.Slice.sliceAdjust lo hi c (n : Int)).2 c
def stepL {α : Type} (xs : List α) (lo hi : Option Int) (c : Int) : List α := (List.range (stepN xs.length lo hi c)).filterMap fun (k : Nat) => xs[(stepA xs.length lo hi c + (k : Int) * c).toNat]?
def stepWhole (n : Nat) (lo hi : Option Int) (c : Int) : Prop := stepA n lo hi c = 0 ∧ c = 1 ∧ stepN n lo hi c = n
instance (n : Nat) (lo hi : Option Int) (c : Int) : Decidable (stepWhole n lo hi c) := inferInstanceAs (Decidable (_ ∧ _ ∧ _))
section
variable {prog : Program} {w : World} {A : Around} {E : Value → Shared → Prop} {s : Shared}
omit [Tbs] in
theorem sliceApplied_st {sl : Addr} {vl vu vc : Value} {lo hi : Option Int} {c : Int} {n : Nat} {Q : Int × Int × Nat → Shared → Prop} (hs : s.heap.IsSliceOf sl vl vu vc) (pl : IsPart vl lo) (pu : IsPart vu hi) (pc : IsPart vc (some c)) (hc : c ≠ 0)
    (h : Q (stepA n lo hi c, c, stepN n lo hi c) s) : wpAny (model prog w) A (Builtin.Slice.sliceApplied (.ref sl) (pure (n : Int))) Q E s := by
  obtain ⟨os, hos, hcs, hds⟩ := id hs
  unfold Builtin.Slice.sliceApplied Builtin.Slice.sliceFields
  refine wpAny_bind (wpAny_bind (wpAny_field hos hds (x := vl) rfl (wpAny_bind (wpAny_field hos hds (x := vu) rfl (wpAny_bind (wpAny_field hos hds (x := vc) rfl (wpAny_pure ?_)))))))
  refine wpAny_bind (slicePart_ pc ?_)
  show wpAny _ _ (if (c == 0) = true then _ else _) _ _ s
  rw [if_neg (by simpa using hc)]
  refine wpAny_bind (slicePart_ pl (wpAny_bind (slicePart_ pu (wpAny_bind (wpAny_pure ?_)))))
  show wpAny _ _ (match Builtin.Slice.sliceAdjust lo hi c (n : Int) with | (lo, hi) => pure (lo, c, Builtin.Slice.slicePlaces lo hi c)) _ _ s
  exact wpAny_pure h
omit [Tbs] in
theorem getItem_tuple_st {t sl : Addr} {items : Array Value} {vl vu vc : Value} {lo hi : Option Int} {c : Int} {Q : Value → Shared → Prop} (ht : IsTup s.heap t items) (hs : s.heap.IsSliceOf sl vl vu vc) (pl : IsPart vl lo) (pu : IsPart vu hi) (pc : IsPart vc (some c)) (hc : c ≠ 0)
    (h1 : stepWhole items.size lo hi c → Q (.ref t) s)
    (h2 : ¬ stepWhole items.size lo hi c → Q (.ref s.heap.objs.size) { s with heap := s.heap.push { cls := .type "tuple", data := .seq ((List.range (stepN items.size lo hi c)).filterMap fun (k : Nat) => items[(stepA items.size lo hi c + (k : Int) * c).toNat]?).toArray } })
    (hsz : ((List.range (stepN items.size lo hi c)).filterMap fun (k : Nat) => items[(stepA items.size lo hi c + (k : Int) * c).toNat]?).length ≤ sizeLine) : wpAny (model prog w) A (getItem (.ref t) (.ref sl)) Q E s := by
  obtain ⟨os, hos, hcs, hds⟩ := id hs
  have hTs : s.TypeIs (.ref sl) "slice" := ⟨os, hos, hcs⟩
  have htake : sizeOk (.seq ((List.range (stepN items.size lo hi c)).filterMap fun (k : Nat) => items[(stepA items.size lo hi c + (k : Int) * c).toNat]?).toArray) := by
    show ((List.range (stepN items.size lo hi c)).filterMap fun (k : Nat) => items[(stepA items.size lo hi c + (k : Int) * c).toNat]?).toArray.size ≤ sizeLine
    rw [List.size_toArray]
    exact hsz
  unfold getItem
  try with_reducible refine wpAny_holding ?_
  first | refine wpAny_bind (wpAny_pure ?_) | skip
  refine wpAny_bind (wpAny_sequenceKey ht.typeIs (by decide) ?_)
  refine wpAny_bind (wpAny_callSpecial?_slot (name := Str.ofString "__getitem__") ht.typeIs PyProof.Rows.slot_tuple_getitem
    (wpAny_call_entry PyProof.Rows.slot_tuple_getitem ht.typeIs entry_tuple_getitem ?_ (args_tuple_getitem _ _)))
  show wpAny _ _ (Builtin.Tuple.tupleItemsOf (.ref t) >>= _) _ _ s
  refine wpAny_bind (tupleItemsOf_ ht ?_)
  refine wpAny_bind (wpAny_typeOf hTs ?_)
  rw [if_pos (by decide)]
  refine wpAny_bind (sliceApplied_st hs pl pu pc hc ?_)
  show wpAny _ _ (if (stepA items.size lo hi c == 0 && c == 1 && stepN items.size lo hi c == items.size) = true then _ else _) _ _ s
  by_cases hw : stepWhole items.size lo hi c
  · rw [if_pos (Bool.and_eq_true_iff.mpr ⟨Bool.and_eq_true_iff.mpr ⟨beq_iff_eq.mpr hw.1, beq_iff_eq.mpr hw.2.1⟩, beq_iff_eq.mpr hw.2.2⟩)]
    refine wpAny_bind ?_
    show wpAny _ _ (typeOf (.ref t) >>= fun T => pure (T == .type "tuple")) _ _ s
    refine wpAny_bind (wpAny_typeOf ht.typeIs (wpAny_pure ?_))
    first
      | rw [if_pos (by decide)]
      | simp only [beq_self_eq_true, if_true]
    first
      | exact wpAny_bind (wpAny_rule (wpAny_pure ⟨_, rfl, wpAny_pure (h1 hw)⟩))
      | exact wpAny_bind (wpAny_rule (wpAny_bind (wpAny_pure (wpAny_pure ⟨_, rfl, wpAny_pure (h1 hw)⟩))))
  · rw [if_neg (fun q => hw (by simp at q; exact ⟨q.1.1, q.1.2, q.2⟩))]
    first
    | exact wpAny_bind (m := Builtin.Tuple.tupleExact _) (wpAny_newObj_type (wpAny_pure ⟨_, rfl, wpAny_pure (h2 hw)⟩) htake)
    | exact wpAny_bind (m := Builtin.Tuple.tupleExact _) (wpAny_newObj_type (wpAny_bind (wpAny_pure (wpAny_pure ⟨_, rfl, wpAny_pure (h2 hw)⟩))) htake)
    | exact wpAny_bind (wpAny_bind (m := Builtin.Tuple.tupleExact _) (wpAny_newObj_type (wpAny_pure (wpAny_pure ⟨_, rfl, wpAny_pure (h2 hw)⟩)) htake))
    | exact wpAny_bind (wpAny_bind (m := Builtin.Tuple.tupleExact _) (wpAny_newObj_type (wpAny_pure ⟨_, rfl, wpAny_pure (h2 hw)⟩) htake))
end
section
variable {X : Cx} {e st : Expr} {lo hi : Option Expr} {te : TE} {tl th ts : TO} {pos p2 : Pos}
def rSlS (K : PySem.W.Frag) : V → Option Int → Option Int → Option Int → Hp → VK → Prop := fun x lo hi st H Q => ∃ a xs c, x = .ref a ∧ st = some c ∧ c ≠ 0 ∧ SqT K H a xs ∧ (stepL xs lo hi c).length ≤ sizeLine ∧
  (stepWhole xs.length lo hi c → Q (.ref a) H) ∧ (¬ stepWhole xs.length lo hi c → ∀ p, H p = none → Q (.ref p) (upd H p (.tup (stepL xs lo hi c))))
def tSlS (K : PySem.W.Frag) (te : TE) (tl th ts : TO) : TE := fun σ H Q => te σ H fun x H1 => tl σ H1 fun l H2 => th σ H2 fun u H3 => ts σ H3 fun c H4 => rSlS K x l u c H4 Q
omit [Tbs] in
theorem valsL {α : Type} {vs : List V} {us : List Value} (r : Vals vs us) : ∀ (f : List Nat) (g : Nat → Nat), Vals (f.filterMap fun k => vs[g k]?) (f.filterMap fun k => us[g k]?)
  | [], g => .nil
  | k :: f, g => by
    rw [List.filterMap_cons, List.filterMap_cons]
    have hl := r.length
    cases hv : vs[g k]? with
    | none =>
      have hu : us[g k]? = none := by
        rw [List.getElem?_eq_none_iff] at hv ⊢
        omega
      rw [hu]
      exact valsL (α := α) r f g
    | some v =>
      obtain ⟨u, hu, ru⟩ : ∃ u, us[g k]? = some u ∧ RelV v u := r.get hv
      rw [hu]
      exact .cons ru (valsL (α := α) r f g)
theorem pe_slS (he : PE X e te) (hl : PO X lo tl) (hu : PO X hi th) (hs : PO X (some st) ts) : PE X (.Subscript e (.Slice lo hi (some st) p2) pos) (tSlS X.K te tl th ts) := by
  refine ⟨fun pins s σ H Q I h => ?_⟩
  refine Subscript_ (thn (he.run pins s σ H _ I h) fun v s1 ⟨x, H1, I1, r1, q1⟩ => ?_)
  refine wpAny_Slice (thn (hl.run pins s1 σ H1 _ I1 q1) fun vl s2 ⟨l, H2, I2, pl, q2⟩ => thn (hu.run pins s2 σ H2 _ I2 q2) fun vu s3 ⟨u, H3, I3, pu, q3⟩ => thn (hs.run pins s3 σ H3 _ I3 q3) fun vc s4 ⟨c0, H4, I4, pc, q4⟩ => ?_)
  obtain ⟨a, xs, c, rfl, rfl, hc, hx, hz, w1, w2⟩ := q4
  cases r1
  have I5 : Inv X pins σ H4 { s4 with heap := s4.heap.push { cls := .type "slice", data := .fields #[vl, vu, vc] } } := I4.kept (t' := s4.toks) fun b ob q => Heap.get?_push_of_some _ q
  obtain ⟨its, r, ht, _⟩ := I5.tuple hx
  have hlen : its.toArray.size = xs.length := by rw [List.size_toArray]; exact r.length.symm
  show wpAny (model X.prog X.w) X.A (subscriptTail e (.Slice lo hi (some st) p2) (.ref a) (.ref s4.heap.objs.size)) (EP X pins σ Q) X.xe { s4 with heap := s4.heap.push { cls := .type "slice", data := .fields #[vl, vu, vc] } }
  refine tail_any (ops := [.ref a, .ref s4.heap.objs.size]) ht.typeIs PyProof.Rows.slot_tuple_getitem.lookup ?_ (by with_unfolding_all rfl)
  have hv : Vals (stepL xs l u c) ((List.range (stepN its.toArray.size l u c)).filterMap fun (k : Nat) => its.toArray[(stepA its.toArray.size l u c + (k : Int) * c).toNat]?) := by
    rw [hlen]
    have := valsL (α := Nat) r (List.range (stepN xs.length l u c)) fun k => (stepA xs.length l u c + (k : Int) * c).toNat
    simpa [stepL] using this
  refine getItem_tuple_st ht (Heap.IsSliceOf.new _ vl vu vc) pl pu pc hc (fun q => ?_) (fun q => ?_) (by rw [← hv.length]; exact hz)
  · rw [hlen] at q
    exact ⟨.ref a, _, I5, rfl, w1 q⟩
  · rw [hlen] at q
    refine ⟨.ref _, _, I5.laid (t' := s4.toks) (o := .tup (stepL xs l u c)) (fun b ob q => Heap.get?_push_of_some _ q) (Nat.le_refl _) ?_, rfl, w2 q _ (I5.hok.fresh (Nat.le_refl _))⟩
    exact ⟨hz, _, hv, IsTup.new _ _⟩
end
omit [Tbs] in
theorem FzL.step {K : PySem.W.Frag} {F : Hp} {vs : List V} {ds : List D} (h : FzL K F vs ds) : ∀ (f : List Nat) (g : Nat → Nat), FzL K F (f.filterMap fun k => vs[g k]?) (f.filterMap fun k => ds[g k]?)
  | [], g => .nil
  | k :: f, g => by
    rw [List.filterMap_cons, List.filterMap_cons]
    have hl := h.length
    cases hv : vs[g k]? with
    | none =>
      have hu : ds[g k]? = none := by
        rw [List.getElem?_eq_none_iff] at hv ⊢
        omega
      rw [hu]
      exact FzL.step h f g
    | some v =>
      obtain ⟨d, hd, fz⟩ := h.getV hv
      rw [hd]
      exact .cons fz (FzL.step h f g)
def dSs (d : D) (lo hi st : Option Int) : R D := match d, st with
  | .tup ds, some c => if c ≠ 0 ∧ (stepL ds lo hi c).length ≤ sizeLine then .ok (.tup (stepL ds lo hi c)) else .bad
  | _, _ => .bad
def gSs (g : List D → R D) (gl gh gs : List D → R (Option Int)) : List D → R D := fun ρ => g ρ >>= fun d => gl ρ >>= fun lo => gh ρ >>= fun hi => gs ρ >>= fun c => dSs d lo hi c

omit [Tbs] in
theorem range_get {α : Type} : ∀ xs : List α, (List.range xs.length).filterMap (fun k => xs[k]?) = xs
  | [] => rfl
  | x :: xs => by
    rw [List.length_cons, List.range_succ_eq_map, List.filterMap_cons, List.filterMap_map]
    show x :: List.filterMap ((fun k => (x :: xs)[k]?) ∘ Nat.succ) (List.range xs.length) = x :: xs
    have e : ((fun k => (x :: xs)[k]?) ∘ Nat.succ) = fun k => xs[k]? := by funext k; rfl
    rw [e, range_get xs]
omit [Tbs] in
theorem stepL_whole {α : Type} {xs : List α} {lo hi : Option Int} {c : Int} (h : stepWhole xs.length lo hi c) : stepL xs lo hi c = xs := by
  obtain ⟨a, b, n⟩ := h
  unfold stepL
  rw [a, n, b]
  have : (fun k : Nat => xs[((0 : Int) + (k : Int) * 1).toNat]?) = fun k => xs[k]? := by
    funext k
    rw [show ((0 : Int) + (k : Int) * 1).toNat = k by omega]
  rw [this]
  exact range_get xs
section
variable {K : PySem.W.Frag} {E : XK} {X : Cx} {Γ : List M} {e st : Expr} {t : TE} {m : M} {g : List D → R D} {lo hi : Option Expr} {tl th ts : TO} {gl gh gs : List D → R (Option Int)} {pos p2 : Pos} {k : Nat}
/-- t[lo:hi:c], t a tuple -/
theorem de_slS (U : Uni K E k X) (h : DE K E X Γ e t m g) (hl : DO K E X Γ lo tl gl) (hh : DO K E X Γ hi th gh) (hs : DO K E X Γ (some st) ts gs) : DE K E X Γ (.Subscript e (.Slice lo hi (some st) p2) pos) (tSlS K t tl th ts) .fr (gSs g gl gh gs) := by
  have e0 := U.K
  subst e0
  refine ⟨pe_slS h.pe hl.po hh.po hs.po, fun F0 H0 ρ σ F H fps Q r q => ?_⟩
  refine h.se F0 H0 ρ σ F H fps _ r ((RP.bind q).imp (fun d q1 v F1 H1 fp1 e1 rv1 f1 => ?_) fun _ z => z)
  refine hl.so F0 H0 ρ σ F1 H1 fps _ (r.ext e1) ((RP.bind q1).imp (fun lo q2 F2 H2 e2 => ?_) fun _ z => z.on e1)
  refine hh.so F0 H0 ρ σ F2 H2 fps _ ((r.ext e1).ext e2) ((RP.bind q2).imp (fun hi q3 F3 H3 e3 => ?_) fun _ z => (z.on e1).on e2)
  refine hs.so F0 H0 ρ σ F3 H3 fps _ (((r.ext e1).ext e2).ext e3) ((RP.bind q3).imp (fun st q4 F4 H4 e4 => ?_) fun _ z => ((z.on e1).on e2).on e3)
  have x4 : Ext F H F4 H4 := e1.trans (e2.trans (e3.trans e4))
  have bo : Bo X.K H4 F4 v d := (rv1.grow (e2.f.trans (e3.f.trans e4.f)) (e2.h.trans (e3.h.trans e4.h))).pk x4.fh (r.h0.trans x4.h)
  cases d with
  | tup ds =>
    cases st with
    | some c =>
      obtain ⟨hc, q5⟩ := RP.ite (show RP (if _ then _ else _) _ _ from q4)
      have q5 : VP X.K H0 F H .fr (.tup (stepL ds lo hi c)) Q := q5
      obtain ⟨a, vs, rfl, h1, h2⟩ := bo.tupOf
      have hst : FzL X.K F4 (stepL vs lo hi c) (stepL ds lo hi c) := by
        unfold stepL
        rw [h2.length]
        exact h2.step _ _
      refine ⟨a, vs, c, rfl, rfl, hc.1, Same.sqt x4.fh h1, by rw [hst.length]; exact hc.2, fun w => ?_, fun _ p hp => VP.newT (VP.on q5 x4) x4.fh hp hst⟩
      rw [h2.length] at w
      rw [stepL_whole w] at q5
      exact VP.old (VP.on q5 x4) x4.fh (.tup h1 h2)
    | none => exact (show False from q4).elim
  | _ => exact (show False from q4).elim
end
end DL
/-! DLlam: a lambda of one parameter as a key: it is made, called, handed to min. -/
namespace DL
open PySem PySem.Spec PyProof.Rows L2 LamX NdefX
section
variable {X : Cx} {pins : List (Addr × Obj)} {σ : L2.St} {H : Hp} {s : Shared}
/-- the name of the lambdas of a body -/
abbrev lamQ (X : Cx) : Str := X.env.qual ++ "<lambda>"
theorem Same.upd2 {H : Hp} {P c : Addr} {ps qs : Array Value} {o : HO} (hP : H P = some (.tbl ps)) (hc : H c = none) : Same H (upd (upd H P (.tbl qs)) c o) :=
  ⟨fun b u e n => by
    have h1 : b ≠ c := ne_of_none e hc
    have h2 : b ≠ P := fun z => by subst z; rw [hP] at e; cases e; cases n
    rw [upd_ne h1, upd_ne h2]; exact e,
   fun b e => by
    by_cases h1 : b = c
    · subst h1; exact hc
    · rw [upd_ne h1] at e
      by_cases h2 : b = P
      · subst h2; rw [upd_same] at e; cases e
      · rw [upd_ne h2] at e; exact e⟩
theorem lam_tabs {T : List (Addr × Str)} {H : Hp} {P c : Addr} {q : Str} {ps : Array Value} {pos : Pos} (t : Tabs T H) (hP : H P = some (.tbl ps)) (hps : TriplesOk ps.toList) (hc : H c = none) (hu : ∀ p ∈ T, p.1 = P → p.2 = q)
    (ha : ∀ (pos : Pos) (cv : Value), codeAmong pos ps.toList = some cv → ∃ c, cv = .ref c ∧ H c = some (CodeO c q)) :
    Tabs T (upd (upd H P (.tbl (ps ++ #[rawInt pos.line, rawInt pos.col, .ref c]))) c (CodeO c q)) := fun p hp => by
  have sm := Same.upd2 (qs := ps ++ #[rawInt pos.line, rawInt pos.col, .ref c]) (o := CodeO c q) hP hc
  have nC : ∀ {x : Addr} {n : Str}, notTbl (CodeO x n) = true := fun {x n} => rfl
  by_cases e : p.1 = P
  · have eL : (ps ++ #[rawInt pos.line, rawInt pos.col, .ref c]).toList = ps.toList ++ [rawInt pos.line, rawInt pos.col, .ref c] := by simp
    rw [hu p hp e, e]
    refine ⟨_, (upd_ne (ne_of_none hP hc)).trans upd_same, eL ▸ PySem.TriplesOk_snoc _ _ _ _ hps, fun p2 cv h2 => ?_⟩
    rcases among_app _ hps (eL ▸ h2) with z | z
    · exact (ha p2 cv z).elim fun c0 q0 => ⟨c0, q0.1, sm.at_ q0.2⟩
    · exact ⟨c, z, upd_same⟩
  · obtain ⟨ps2, a1, a2, a3⟩ := t p hp
    refine ⟨ps2, by rw [upd_ne (ne_of_none a1 hc), upd_ne e]; exact a1, a2, fun p2 cv h2 => ?_⟩
    exact (a3 p2 cv h2).elim fun c0 q0 => ⟨c0, q0.1, sm.at_ q0.2⟩
/-- the lambda is made -/
theorem lam_made [Tbs] {c P : Addr} {params : Arguments} {body : Expr} {scope : Scope} {pos : Pos} {E : Value → Shared → Prop} {Q : Value → Shared → Prop} (I : Inv X pins σ H s) (TB : TabB X.base X.mg c P) (hcode : X.env.code = .ref c)
    (hm : (P, lamQ X) ∈ Tbs.T) (hu : ∀ p ∈ Tbs.T, p.1 = P → p.2 = lamQ X) (hT : TbsOk H) (hdef : defaultsOf params X.env = ([], [])) (hfree : ∀ y ∈ scope.names, y.2 = .free → ∃ c, X.env.cells.lookup y.1 = some c)
    (h : ∀ (f c2 : Addr) (pm ctv : Value) (H1 : Hp) (s1 : Shared), Same H H1 → TbsOk H1 → H1 c2 = some (CodeO c2 (lamQ X)) →
      Inv X ((f, PySem.W.kla_obj "<lambda>" (lamQ X) params body scope (cloFrom X.env.cells scope.names []) pm c2 ctv) :: pins) σ H1 s1 → Q (.ref f) s1) :
    wpAny (model X.prog X.w) X.A (eval (.Lambda params body scope pos) X.env) Q E s := by
  obtain ⟨ps, hP, hps, ha⟩ := hT _ hm
  have oP : s.heap.get? P = some { cls := .none, data := .fields ps } := I.hok P _ hP
  have bm : s.heap.BuiltinsAt X.mg P := TB.bm.keeps I.bk
  have cd : PySem.W.CodeHd s.heap c P := TB.code.keeps I.bk
  have hg : s.heap.Ns mainGlobals X.mg := I.mod.glob.keeps I.bk
  refine PySem.W.kla_eval hdef ?_
  cases hc : codeAmong pos ps.toList with
  | some cv =>
    obtain ⟨c2, rfl, hc2⟩ := ha pos cv hc
    refine PySem.W.kla_makeFunctionHit (closure_ok hfree) I.ok.glob hg hcode cd oP hps hc bm fun ctv h1 tk k1 z1 => ?_
    have I1 : Inv X pins σ H { s with heap := h1, toks := s.toks } := I.kept k1
    exact h _ c2 _ ctv H _ (Same.refl _) hT hc2 (ClX.pin_new (s := { s with heap := h1 }) (t' := tk) I1 (fun b u (q : h1.get? b = some u) => Heap.get?_push_of_some _ q) (Nat.le_refl _) (Heap.get?_push_size h1 rfl) fun v z => nomatch z)
  | none =>
    refine PySem.W.kla_makeFunction (closure_ok hfree) I.ok.glob hg hcode cd oP hps hc TB.gP bm fun c2 ctv h1 tk x1 z1 z2 rec tb => ?_
    obtain ⟨c3, oc, vs, t, e3, r1, r2, r3⟩ := rec
    cases e3
    have nC : H c2 = none := I.hok.fresh z1
    have I1 := inv_table (t' := tk) (more := #[rawInt pos.line, rawInt pos.col, .ref c2]) (h' := h1) I hP (fun b o hb e => x1 b o hb e) tb z1 ⟨oc, vs, t, r1, r2, r3⟩
    exact h _ c2 _ ctv _ _ (Same.upd2 hP nC) (lam_tabs hT hP hps nC hu ha) upd_same (ClX.pin_new (s := { s with heap := h1, toks := tk }) (t' := tk) I1 (fun b u (q : h1.get? b = some u) => Heap.get?_push_of_some _ q) (Nat.le_refl _) (Heap.get?_push_size h1 rfl) fun v z => nomatch z)
/-- what is pinned may be called by another frame's text too -/
abbrev lamF (X : Cx) (scope : Scope) (c2 : Addr) : NF := ⟨"<lambda>", lamQ X, default, [], scope, cloFrom X.env.cells scope.names [], c2⟩
/-- the lambda is called: p its parameter, fr the captured names, js their slots here -/
theorem lam_call {A : Around} {params : Arguments} {body : Expr} {scope : Scope} {f c2 : Addr} {pm ctv : Value} {N fr : List Str} {p : Str} {js : List Nat} {k : Nat} {tb : TE} {v : V} {u : Value} {Q : VK}
    (hA : A = X.A.in1) (I : Inv X pins σ H s) (hf : (f, PySem.W.kla_obj "<lambda>" (lamQ X) params body scope (cloFrom X.env.cells scope.names []) pm c2 ctv) ∈ pins) (hc : H c2 = some (CodeO c2 (lamQ X)))
    (S : NScope N [p] fr scope) (cp : Caps X (cloFrom X.env.cells scope.names []) fr js) (hr : Room (k + 2) X.A)
    (hb : ∀ (pm ctv us : Value), bindArgs (PySem.W.kla_fn "<lambda>" (lamQ X) params body scope (cloFrom X.env.cells scope.names []) pm (.ref c2) ctv) ⟨[us], []⟩ = pure [(p, us)])
    (hbody : ∀ (A : Around) (outer : List Env) (s : Shared) (H : Hp), Room k (A.deeper (envF (lamF X scope c2) f s.heap.objs.size)) → PE (ncx (L2.CX X.prog X.w) X.prog X.w X.K X.mg X.base N (lamF X scope c2) f A outer s H E0) body tb)
    (rv : RelV v u) (ht : tb (startF N [v] (js.map (slotAt σ))) H Q) : wpAny (model X.prog X.w) A (call (.ref f) [u]) (EP X pins σ Q) (fun _ _ => False) s := by
  subst hA
  have of1 := (I.pin _ (List.mem_append_right _ hf)).1
  obtain ⟨⟨oc, vs, t, h1, h2, h3⟩, _, _⟩ := I.hok c2 _ hc
  have hr1 : Room (k + 1) X.A.in1 := hr.in1
  have e0 := I.env0.in1
  have lim : s.heap.NoLimit := I.nolimit
  have C := cells_of I cp
  have rc : codeAny (model X.prog X.w) X.A.in1 (.call (.ref f) ⟨[u], []⟩) (CR (L2.CX X.prog X.w) X.stack X.prog X.w H s Q E0) s := by
    refine PySem.W.kla_callFunE hr1.depth of1 rfl S.co S.gen rfl ⟨c2, oc, vs, t, rfl, h1, h2, h3⟩ ?_
    rw [hb pm ctv u]
    refine wpAny_pure (wpAny_newFunctionEnv S.nocell (fun q hy => ?_) (fun h4 hns hsb => ⟨lim.fresh _ hsb, ?_⟩) S.kind)
    · have e : q = (p, u) := by simpa using hy
      subst e
      exact S.par p (by simp)
    · have kp : ∀ b o, s.heap.get? b = some o → h4.get? b = some o := fun b o e => hsb.extBut b o (Nat.ne_of_lt (Heap.lt_size e)) (Heap.get?_push_of_some _ e)
      have J := inv_startN (CX := L2.CX X.prog X.w) (E := E0) (f := f) (tk := s.toks + 1) (ps := [p]) (us := [u]) (vs := [v]) (F := lamF X scope c2) S hr1.hd e0 rfl (.cons rv .nil) C hns kp
      refine PySem.W.kla_codeExpr (wpAny_mono ((hbody _ _ s H (hr1.deeper _)).run [] _ _ H Q J ht) (fun w2 s2 hq => ?_) fun e s2 hq => hq)
      obtain ⟨w3, H3, J3, r3, q3⟩ := hq
      exact ⟨w3, H3, J3.os, J3.bare, J3.base, J3.hok, r3, q3⟩
  refine wpAny_call (codeAny_mono rc fun r s2 hq => ?_)
  cases r with
  | error e =>
    obtain ⟨_, _, _, _, _, _, _, _, _, _, _, _, z⟩ := (show L2.CX X.prog X.w X.stack H s E0 e s2 from hq)
    exact z.elim
  | ok fl =>
    cases fl with
    | ret u => exact I.after hq
    | next => exact False.elim hq
    | brk => exact False.elim hq
    | cont => exact False.elim hq
end
end DL
/-! DLmin: min(t, key=f) over a tuple: the loop of the built-in, its two records pinned. -/
namespace DL
open PySem PySem.Spec PyProof.Rows L2 LamX NdefX
section
variable {X : Cx} {pins : List (Addr × Obj)} {σ : L2.St} {H : Hp} {s : Shared}
theorem pin_put {a : Addr} {o : Obj} (I : Inv X pins σ H s) (h1 : s.heap.get? a = some o) (h2 : H a = none) (h3 : a ≠ X.env.locals) (h4 : a ∉ X.fs) (h5 : ∀ v, o.data ≠ .cell v) : Inv X ((a, o) :: pins) σ H s :=
  I.pins_of fun p hp => (List.mem_cons.mp hp).elim (fun e => by subst e; exact ⟨h1, h2, h3, h4, h5⟩) fun e => I.pin p (List.mem_append_right _ e)
/-- a record of the built-in's own -/
structure Own (X : Cx) (pins : List (Addr × Obj)) (b : Addr) : Prop where
  nl : b ≠ X.env.locals
  nf : b ∉ X.fs
  ag : b ∈ X.ex ∨ X.s_0.heap.objs.size ≤ b
  nc : ∀ x c, X.env.cells.lookup x = some c → c ≠ b
  np : ∀ p ∈ X.pn ++ pins, p.1 ≠ b
theorem Own.new (I : Inv X pins σ H s) {b : Addr} (h : s.heap.objs.size ≤ b) : Own X pins b := by
  obtain ⟨_, a2, a3, a4, a5, a6⟩ := I.fpOk (H' := fun _ => none) h rfl
  exact ⟨a2, a3, a4, a5, a6⟩
/-- such a record is written -/
theorem Own.turn {b : Addr} {o : Obj} {h2 : Heap} {t2 : Nat} (w : Own X pins b) (I : Inv X pins σ H s) (hn : H b = none) (k : ∀ c, c ≠ b → h2.get? c = s.heap.get? c) (ho : h2.get? b = some o) (hc : ∀ v, o.data ≠ .cell v) :
    Inv X ((b, o) :: pins) σ H { s with heap := h2, toks := t2 } :=
  pin_put (I.turned (t' := t2) (fun c u hb e => (k c hb).trans e) hn w.nl w.ag w.nc w.np) ho hn w.nl w.nf hc
abbrev lst2 (a b : Value) (c : Nat) : Obj := seqObj "list" #[a, b] c
abbrev iterT (t : Addr) (i : Nat) : Obj := { cls := .type "tuple_iterator", data := .fields #[.ref t, .int i 0] }
/-- one draw -/
theorem draw_item {A : Around} {E : Value → Shared → Prop} {t it : Addr} {oi : Obj} {i : Nat} {vs : List V} {v : V} {Q : Option Value → Shared → Prop} (w : Own X pins it) (I : Inv X ((it, oi) :: pins) σ H s) (hi : s.heap.IsTupleIter it t i) (ht : SqT X.K H t vs) (hv : vs[i]? = some v)
    (h : ∀ u h2 oi2, RelV v u → h2.IsTupleIter it t (i + 1) → Inv X ((it, oi2) :: pins) σ H { s with heap := h2 } → Q (some u) { s with heap := h2 }) : wpAny (model X.prog X.w) A (pyNext (.ref it)) Q E s := by
  obtain ⟨its, rv, ht2, _⟩ := I.tuple ht
  obtain ⟨u, hu, ru⟩ := rv.get hv
  refine wpAny_pyNext_tuple_item hi (show s.heap.IsTuple t its.toArray from ht2) (x := u) (by simpa using hu) fun h2 st sb => ?_
  obtain ⟨o2, e1, e2, e3⟩ := id st
  refine h u h2 o2 ru st (w.turn (t2 := s.toks) (ClX.unpin I) (ClX.pin_un I) sb.2 e1 fun v z => ?_)
  rw [e3] at z
  cases z
theorem draw_end {A : Around} {E : Value → Shared → Prop} {t it : Addr} {oi : Obj} {i : Nat} {vs : List V} {Q : Option Value → Shared → Prop} (hd : A.handled = none) (w : Own X pins it) (I : Inv X ((it, oi) :: pins) σ H s) (hi : s.heap.IsTupleIter it t i) (ht : SqT X.K H t vs) (hv : vs[i]? = none)
    (h : ∀ h2 tk, Inv X pins σ H { s with heap := h2, toks := tk } → tk = s.toks → Q none { s with heap := h2 }) : wpAny (model X.prog X.w) A (pyNext (.ref it)) Q E s := by
  obtain ⟨its, rv, ht2, _⟩ := I.tuple ht
  have hl := rv.length
  refine wpAny_pyNext_tuple_end hd hi (show s.heap.IsTuple t its.toArray from ht2) (by rw [List.getElem?_eq_none_iff] at hv; simp; omega) fun h2 sb => ?_
  exact h h2 s.toks ((ClX.unpin I).turned (t' := s.toks) (fun c u hb e => sb c u hb e) (ClX.pin_un I) w.nl w.ag w.nc w.np) rfl
/-- the first of the least, behind the items 0 .. j: i -/
structure Best (kf : Nat → Int) (j i : Nat) : Prop where
  le : i ≤ j
  all : ∀ l, l ≤ j → kf i ≤ kf l ∧ (l < i → kf i < kf l)
theorem Best.next {kf : Nat → Int} {j i : Nat} (b : Best kf j i) : Best kf (j + 1) (if kf (j + 1) < kf i then j + 1 else i) := by
  by_cases c : kf (j + 1) < kf i
  · rw [if_pos c]
    refine ⟨Nat.le_refl _, fun l hl => ?_⟩
    by_cases e : l = j + 1
    · subst e; exact ⟨Int.le_refl _, fun z => absurd z (Nat.lt_irrefl _)⟩
    · have := (b.all l (by omega)).1
      exact ⟨by omega, fun _ => by omega⟩
  · rw [if_neg c]
    refine ⟨Nat.le_succ_of_le b.le, fun l hl => ?_⟩
    by_cases e : l = j + 1
    · subst e; exact ⟨by omega, fun z => absurd z (by have := b.le; omega)⟩
    · exact b.all l (by omega)
section
variable {t it st f : Addr} {oF : Obj} {vs : List V} {kf : Nat → Int} {G : Hp → Prop} {R : Result → Shared → Prop}
/-- what the key does to an item -/
abbrev Key (X : Cx) (σ : L2.St) (f : Addr) (oF : Obj) (vs : List V) (kf : Nat → Int) (G : Hp → Prop) : Prop :=
  ∀ (i : Nat) (v : V) (u : Value) (pins : List (Addr × Obj)) (H : Hp) (s : Shared), vs[i]? = some v → RelV v u → G H → (f, oF) ∈ pins → Inv X pins σ H s →
    wpAny (model X.prog X.w) X.A.in1 (call (.ref f) [u]) (EP X pins σ fun y H2 => y = .int (kf i) ∧ G H2) (fun _ _ => False) s
theorem min_loop (hd : X.A.handled = none) (hG : ∀ H, G H → SqT X.K H t vs) (key : Key X σ f oF vs kf G) (hf : (f, oF) ∈ pins) (wi : Own X pins it) (ws : Own X pins st) (ne : st ≠ it)
    (fin : ∀ i v u H s, Best kf (vs.length - 1) i → vs[i]? = some v → RelV v u → G H → Inv X pins σ H s → R (.ok (.ret u)) s) :
    ∀ (r j i : Nat) (H : Hp) (s : Shared) (ub : Value) (tb : Tok) (c : Nat) (v : V) (oi : Obj), vs.length - (j + 1) = r → j + 1 ≤ vs.length → G H → Inv X ((it, oi) :: (st, lst2 ub (.int (kf i) tb) c) :: pins) σ H s → s.heap.IsTupleIter it t (j + 1) → vs[i]? = some v → RelV v ub → Best kf j i →
      codeAny (model X.prog X.w) X.A (.builtin "min.loop" ⟨[.ref it, .ref f, .ref st], []⟩) R s := by
  have name : (toString "min" ++ toString ".loop" : String) = "min.loop" := by decide
  have wi2 : ∀ {o : Obj}, Own X ((st, o) :: pins) it := fun {o} => ⟨wi.nl, wi.nf, wi.ag, wi.nc, fun p hp => by
    rcases List.mem_append.mp hp with z | z
    · exact wi.np p (List.mem_append_left _ z)
    · rcases List.mem_cons.mp z with e | z
      · subst e; exact ne
      · exact wi.np p (List.mem_append_right _ z)⟩
  have ws2 : ∀ {o : Obj}, Own X ((it, o) :: pins) st := fun {o} => ⟨ws.nl, ws.nf, ws.ag, ws.nc, fun p hp => by
    rcases List.mem_append.mp hp with z | z
    · exact ws.np p (List.mem_append_left _ z)
    · rcases List.mem_cons.mp z with e | z
      · subst e; exact Ne.symm ne
      · exact ws.np p (List.mem_append_right _ z)⟩
  intro r
  induction r with
  | zero =>
    intro j i H s ub tb c v oi hr hj g I hit hv rv b
    have oS := ClX.pin_at (ClX.unpin I)
    refine codeAny_builtin PySem.F.entry_min_loop ?_
    rw [Around.under_plainId PySem.F.plain_min_loop _]
    show wpAny _ X.A.in1 (seqItems? (.ref st) >>= _) _ _ s
    refine wpAny_bind (wpAny_seqItems oS rfl ?_)
    show wpAny _ X.A.in1 (tryCatch (pyNext (.ref it)) _ >>= _) _ _ s
    refine wpAny_bind (wpAny_tryCatch (draw_end hd wi2 I hit (hG H g) (List.getElem?_eq_none_iff.mpr (by omega)) fun h2 tk J etk => ?_))
    subst etk
    show wpAny _ X.A.in1 (updateSeq st (fun _ => #[]) >>= _) _ _ _
    refine wpAny_bind (wpAny_updateSeq (s := { s with heap := h2 }) (ClX.pin_at J) rfl (wpAny_bind (wpAny_letGo (wpAny_pure ?_))))
    have sb := Heap.SameBut.update h2 st (Obj.mapSeq fun _ => (#[] : Array Value))
    have J2 := (ClX.unpin J).turned (t' := s.toks) (h' := h2.update st (Obj.mapSeq fun _ => (#[] : Array Value))) (fun c u hb e => (sb.2 c hb).trans e) (ClX.pin_un J) ws.nl ws.ag ws.nc ws.np
    exact fin i v ub H _ (by rw [show vs.length - 1 = j by omega]; exact b) hv rv g J2
  | succ r ih =>
    intro j i H s ub tb c v oi hr hj g I hit hv rv b
    have oS := ClX.pin_at (ClX.unpin I)
    refine codeAny_builtin PySem.F.entry_min_loop ?_
    rw [Around.under_plainId PySem.F.plain_min_loop _]
    show wpAny _ X.A.in1 (seqItems? (.ref st) >>= _) _ _ s
    refine wpAny_bind (wpAny_seqItems oS rfl ?_)
    show wpAny _ X.A.in1 (tryCatch (pyNext (.ref it)) _ >>= _) _ _ s
    have hjv : vs[j + 1]? = some vs[j + 1] := List.getElem?_eq_getElem (by omega)
    refine wpAny_bind (wpAny_tryCatch (draw_item wi2 I hit (hG H g) hjv fun u h2 oi2 ru hit2 J => ?_))
    show wpAny _ X.A.in1 (tryCatch (holding [u] (call (.ref f) [u])) _ >>= _) _ _ _
    refine wpAny_bind (wpAny_tryCatch (wpAny_holding (wpAny_mono (key (j + 1) _ u _ H _ hjv ru g (List.mem_cons_of_mem _ (List.mem_cons_of_mem _ hf)) J) (fun x s3 hx => ?_) fun _ _ z => z.elim)))
    obtain ⟨y, H3, J3, ry, ey, g3⟩ := hx
    subst ey
    obtain ⟨tk3, rfl⟩ := ry
    have hit3 : s3.heap.IsTupleIter it t (j + 2) := by
      obtain ⟨o2, e1, e2⟩ := hit2
      have e3 : (h2.get? it) = some oi2 := ClX.pin_at J
      rw [e3] at e1
      cases e1
      exact ⟨oi2, ClX.pin_at J3, e2⟩
    show wpAny _ X.A.in1 (tryCatch (holding [u, .int (kf (j + 1)) tk3] (richCompare .Lt (.int (kf (j + 1)) tk3) (.int (kf i) tb) >>= _)) _ >>= _) _ _ _
    refine wpAny_bind (wpAny_tryCatch (wpAny_holding (wpAny_bind (CmpOf.ints_lt (P := fun i v => ∃ t, v = .int (kf i) t) kf (fun i v h => h) (j + 1) i _ _ _ _ _ ⟨tk3, rfl⟩ ⟨tb, rfl⟩ ?_))))
    refine wpAny_bind (wpAny_holding (wpAny_truthy_bool (wpAny_bind (wpAny_letGo (wpAny_pure ?_)))))
    have bn := b.next
    by_cases lt : kf (j + 1) < kf i
    · simp only [lt, decide_true, if_true] at bn ⊢
      have J4 := ClX.unpin J3
      have sb := Heap.SameBut.update s3.heap st (Obj.mapSeq fun _ => #[u, .int (kf (j + 1)) tk3])
      obtain ⟨c2, hc2⟩ : ∃ c2, (s3.heap.update st (Obj.mapSeq fun _ => #[u, .int (kf (j + 1)) tk3])).get? st = some (lst2 u (.int (kf (j + 1)) tk3) c2) := ⟨_, get?_update_seq (ClX.pin_at J4) fun _ => #[u, .int (kf (j + 1)) tk3]⟩
      refine wpAny_bind (wpAny_updateSeq (ClX.pin_at J4) rfl (wpAny_bind (wpAny_letGo ?_)))
      rw [name]
      have oI : (s3.heap.update st (Obj.mapSeq fun _ => #[u, .int (kf (j + 1)) tk3])).get? it = some oi2 := (sb.2 it (Ne.symm ne)).trans (ClX.pin_at J3)
      have J5 := ws.turn (t2 := s3.toks) (h2 := s3.heap.update st (Obj.mapSeq fun _ => #[u, .int (kf (j + 1)) tk3])) (ClX.unpin J4) (ClX.pin_un J4) sb.2 hc2 fun v z => nomatch z
      obtain ⟨o2, e1, e2, e3⟩ := id hit3
      have e4 : o2 = oi2 := Option.some.inj (e1.symm.trans (ClX.pin_at J3))
      subst e4
      refine wpAny_pure ⟨plainId_quiet PySem.F.plain_min_loop _, ih (j + 1) (j + 1) H3 _ u tk3 c2 _ o2 (by omega) (by omega) g3 (pin_put J5 oI (ClX.pin_un J3) wi.nl wi.nf fun v z => ?_) ⟨o2, oI, e2, e3⟩ hjv ru bn⟩
      rw [e3] at z
      cases z
    · simp only [lt, decide_false, Bool.false_eq_true, if_false] at bn ⊢
      refine wpAny_bind (wpAny_letGo ?_)
      rw [name]
      exact wpAny_pure ⟨plainId_quiet PySem.F.plain_min_loop _, ih (j + 1) i H3 s3 ub tb c v oi2 (by omega) (by omega) g3 J3 hit3 hv rv bn⟩
/-- min(t, key=f) -/
theorem min_run {E : Value → Shared → Prop} {Q : Value → Shared → Prop} (hd : X.A.handled = none) (hG : ∀ H, G H → SqT X.K H t vs) (key : Key X σ f oF vs kf G) (hf : (f, oF) ∈ pins) (hne : 0 < vs.length) (g : G H) (I : Inv X pins σ H s)
    (fin : ∀ i v u H s, Best kf (vs.length - 1) i → vs[i]? = some v → RelV v u → G H → Inv X pins σ H s → Q u s) :
    wpAny (model X.prog X.w) X.A (call (.builtin "min") [.ref t] [(Str.ofString "key", .ref f)]) Q E s := by
  have name : (toString "min" ++ toString ".loop" : String) = "min.loop" := by decide
  obtain ⟨its, rvs, ht, _⟩ := I.tuple (hG H g)
  refine kmk_tree PySem.F.kind_min PySem.F.plain_min PySem.F.entry_min (kmk_min_key _ _) ?_
  show wpAny _ _ (Builtin.Builtins.bindParams "min" ["key", "default"] 0 ⟨[], [(Str.ofString "key", .ref f)]⟩ >>= _) _ _ s
  refine wpAny_bind (wpAny_of_eq (a := [some (.ref f), none]) rfl (wpAny_bind (wpAny_pure (wpAny_bind (wpAny_pyIter_tuple (show s.heap.IsTuple t its.toArray from ht) (wpAny_bind (wpAny_newList ?_ (Nat.zero_le _))))))))
  rw [name]
  generalize hh1 : s.heap.push { cls := .type "tuple_iterator", data := .fields #[.ref t, .int 0 0] } = h1
  generalize hh2 : h1.push (seqObj "list" #[] 0) = h2
  have sz : h1.objs.size = s.heap.objs.size + 1 := by rw [← hh1]; exact Heap.size_push ..
  have k1 : ∀ b o, s.heap.get? b = some o → h1.get? b = some o := fun b o e => by rw [← hh1]; exact Heap.get?_push_of_some _ e
  have k2 : ∀ b o, h1.get? b = some o → h2.get? b = some o := fun b o e => by rw [← hh2]; exact Heap.get?_push_of_some _ e
  have oI : h2.get? s.heap.objs.size = some (iterT t 0) := k2 _ _ (by rw [← hh1]; exact Heap.get?_push_size _ rfl)
  have oS : h2.get? h1.objs.size = some (seqObj "list" #[] 0) := by rw [← hh2]; exact Heap.get?_push_size _ rfl
  have wi : Own X pins s.heap.objs.size := Own.new I (Nat.le_refl _)
  have ws : Own X pins h1.objs.size := Own.new I (by rw [sz]; exact Nat.le_succ _)
  have ne : h1.objs.size ≠ s.heap.objs.size := by rw [sz]; exact Nat.succ_ne_self _
  have nI : H s.heap.objs.size = none := I.hok.fresh (Nat.le_refl _)
  have nS : H h1.objs.size = none := I.hok.fresh (by rw [sz]; exact Nat.le_succ _)
  have I2 : Inv X pins σ H { s with heap := h2, toks := s.toks } := I.kept fun b o e => k2 _ _ (k1 _ _ e)
  have I3 := pin_put (pin_put I2 oS nS ws.nl ws.nf (fun v z => nomatch z)) oI nI wi.nl wi.nf (fun v z => nomatch z)
  have wi2 : ∀ {o : Obj}, Own X ((h1.objs.size, o) :: pins) s.heap.objs.size := fun {o} => ⟨wi.nl, wi.nf, wi.ag, wi.nc, fun p hp => by
    rcases List.mem_append.mp hp with z | z
    · exact wi.np p (List.mem_append_left _ z)
    · rcases List.mem_cons.mp z with e | z
      · subst e; exact ne
      · exact wi.np p (List.mem_append_right _ z)⟩
  refine wpAny_pure ⟨plainId_quiet PySem.F.plain_min_loop _, codeAny_builtin PySem.F.entry_min_loop ?_⟩
  rw [Around.under_plainId PySem.F.plain_min_loop _]
  show wpAny _ _ (seqItems? (.ref h1.objs.size) >>= _) _ _ _
  refine wpAny_bind (wpAny_seqItems oS rfl ?_)
  show wpAny _ _ (tryCatch (pyNext (.ref s.heap.objs.size)) _ >>= _) _ _ _
  have h0v : vs[0]? = some vs[0] := List.getElem?_eq_getElem hne
  refine wpAny_bind (wpAny_tryCatch (draw_item (s := { s with heap := h2 }) wi2 I3 ⟨_, oI, rfl, rfl⟩ (hG H g) h0v fun u h3 oi2 ru hit2 J => ?_))
  show wpAny _ _ (tryCatch (holding [u] (call (.ref f) [u])) _ >>= _) _ _ _
  refine wpAny_bind (wpAny_tryCatch (wpAny_holding (wpAny_mono (key 0 _ u _ H _ h0v ru g (List.mem_cons_of_mem _ (List.mem_cons_of_mem _ hf)) J) (fun x s3 hx => ?_) fun _ _ z => z.elim)))
  obtain ⟨y, H3, J3, ry, ey, g3⟩ := hx
  subst ey
  obtain ⟨tk3, rfl⟩ := ry
  have J4 := ClX.unpin J3
  have sb := Heap.SameBut.update s3.heap h1.objs.size (Obj.mapSeq fun _ => #[u, .int (kf 0) tk3])
  obtain ⟨c2, hc2⟩ : ∃ c2, (s3.heap.update h1.objs.size (Obj.mapSeq fun _ => #[u, .int (kf 0) tk3])).get? h1.objs.size = some (lst2 u (.int (kf 0) tk3) c2) := ⟨_, get?_update_seq (ClX.pin_at J4) fun _ => #[u, .int (kf 0) tk3]⟩
  show wpAny _ _ (updateSeq h1.objs.size (fun _ => #[u, .int (kf 0) tk3]) >>= _) _ _ _
  refine wpAny_bind (wpAny_updateSeq (ClX.pin_at J4) rfl ?_)
  rw [name]
  have oI3 : (s3.heap.update h1.objs.size (Obj.mapSeq fun _ => #[u, .int (kf 0) tk3])).get? s.heap.objs.size = some oi2 := (sb.2 _ (Ne.symm ne)).trans (ClX.pin_at J3)
  have J5 := ws.turn (t2 := s3.toks) (h2 := s3.heap.update h1.objs.size (Obj.mapSeq fun _ => #[u, .int (kf 0) tk3])) (ClX.unpin J4) (ClX.pin_un J4) sb.2 hc2 fun v z => nomatch z
  obtain ⟨o2, e1, e2, e3⟩ := id hit2
  have e4 : o2 = oi2 := Option.some.inj (e1.symm.trans (show h3.get? _ = some oi2 from ClX.pin_at J))
  subst e4
  refine wpAny_pure ⟨plainId_quiet PySem.F.plain_min_loop _, min_loop hd hG key hf wi ws ne (fun i v u H s b hv ru g I => fin i v u H s b hv ru g I) _ 0 0 H3 _ u tk3 c2 _ o2 rfl hne g3 (pin_put J5 oI3 (ClX.pin_un J3) wi.nl wi.nf fun v z => ?_) ⟨o2, oI3, e2, e3⟩ h0v ru ⟨Nat.le_refl _, fun l hl => ?_⟩⟩
  · rw [e3] at z
    cases z
  · have e : l = 0 := by omega
    subst e
    exact ⟨Int.le_refl _, fun z => absurd z (Nat.lt_irrefl _)⟩
end
end
end DL
/-! DLkey: min(t, key=lambda p: body) over data. -/
namespace DL
open PySem PySem.Spec PyProof.Rows L2 LamX NdefX
variable [Tbs]
section
variable {X : Cx} {pins : List (Addr × Obj)} {σ : L2.St} {H : Hp} {s : Shared}
/-- the reading: the tuple; the lambda is made; what the key gives of each item -/
def tMinK (X : Cx) (N : List Str) (js : List Nat) (te tb : TE) : TE := fun σ H Q => te σ H fun x H1 => ∃ t vs, x = .ref t ∧ TbsOk H1 ∧ 0 < vs.length ∧ ∀ (H2 : Hp) (c2 : Addr), Same H1 H2 → TbsOk H2 → H2 c2 = some (CodeO c2 (lamQ X)) →
  ∃ (kf : Nat → Int) (G : Hp → Prop), G H2 ∧ (∀ H, G H → SqT X.K H t vs) ∧ (∀ H, G H → H c2 = some (CodeO c2 (lamQ X))) ∧
    (∀ (i : Nat) (v : V) (H3 : Hp), vs[i]? = some v → G H3 → tb (startF N [v] (js.map (NdefX.slotAt σ))) H3 fun y H4 => y = .int (kf i) ∧ G H4) ∧ ∀ i v H3, Best kf (vs.length - 1) i → vs[i]? = some v → G H3 → Q v H3
theorem pe_minKey {e body : Expr} {p kpos pos lpos : Pos} {params : Arguments} {scope : Scope} {te tb : TE} {c P : Addr} {N fr : List Str} {pn : Str} {js : List Nat} {k : Nat} (hmin : X.mg "min" = none) (he : PE X e te) (TB : TabB X.base X.mg c P) (hcode : X.env.code = .ref c)
    (hm : (P, lamQ X) ∈ Tbs.T) (hu : ∀ p ∈ Tbs.T, p.1 = P → p.2 = lamQ X) (S : NScope N [pn] fr scope) (hnd : ndefB X.env.scope scope fr = true) (hjs : js.map (fun j => X.N[j]?) = fr.map some) (hr : Room (k + 2) X.A) (hcalm : X.calm = true)
    (hbind : ∀ (cl : List (Str × Addr)) (q : Str) (c2 : Addr) (pm ctv us : Value), bindArgs (PySem.W.kla_fn "<lambda>" q params body scope cl pm (.ref c2) ctv) ⟨[us], []⟩ = pure [(pn, us)])
    (hbody : ∀ (f c2 : Addr) (A : Around) (outer : List Env) (s : Shared) (H : Hp), Room k (A.deeper (envF (lamF X scope c2) f s.heap.objs.size)) → PE (ncx (L2.CX X.prog X.w) X.prog X.w X.K X.mg X.base N (lamF X scope c2) f A outer s H E0) body tb)
    (hg : Gl X "min") (hdef : defaultsOf params X.env = ([], []))
    (h1 : backTo pos (starEach [e] X.env) = (false, eval e X.env) :: backTo pos (starEach [] X.env)) (h2 : (backTo pos (starEach [e] X.env)).any (·.1) = false) (hs : starEach [e] X.env = (false, eval e X.env) :: starEach [] X.env) :
    PE X (.Call (.Name "min" p) [e] [⟨some "key", .Lambda params body scope lpos, kpos⟩] pos) (tMinK X N js te tb) := by
  refine ⟨fun pins s σ H Q I h => ?_⟩
  have fr1 := ndef_free hnd
  have hfree : ∀ y ∈ scope.names, y.2 = .free → ∃ c, X.env.cells.lookup y.1 = some c := fun y hy z => (fr1 y hy z).elim (fun w => I.ok.has _ (.inl w)) fun w => I.ok.has _ (.inr w)
  have cp : Caps X (cloFrom X.env.cells scope.names []) fr js := Caps.made I.ok fr1 (ndef_fr hnd) hjs
  refine wpAny_Call_Name_kw (ld_blt I hg hmin (u := .builtin "min") (by decide +kernel) ?_)
  have h' : (tCons te tNil) σ H (fun vs1 H1 => match vs1 with
    | [x] => ∃ t vs, x = .ref t ∧ TbsOk H1 ∧ 0 < vs.length ∧ ∀ (H2 : Hp) (c2 : Addr), Same H1 H2 → TbsOk H2 → H2 c2 = some (CodeO c2 (lamQ X)) →
        ∃ (kf : Nat → Int) (G : Hp → Prop), G H2 ∧ (∀ H, G H → SqT X.K H t vs) ∧ (∀ H, G H → H c2 = some (CodeO c2 (lamQ X))) ∧
          (∀ (i : Nat) (v : V) (H3 : Hp), vs[i]? = some v → G H3 → tb (startF N [v] (js.map (NdefX.slotAt σ))) H3 fun y H4 => y = .int (kf i) ∧ G H4) ∧ ∀ i v H3, Best kf (vs.length - 1) i → vs[i]? = some v → G H3 → Q v H3
    | _ => False) := h
  refine PyProof.Rows.callWith_kw (thn ((pa_cons he pa_nil hs).run pos pins s σ H _ I h') fun us s1 ⟨vs1, H1, I1, r1, q1⟩ => ?_) h1 h2 rfl rfl
  cases r1 with
  | nil => exact q1.elim
  | cons rx rr =>
    cases rr with
    | cons _ _ => exact q1.elim
    | nil =>
      obtain ⟨t, vs, rfl, tb1, hne, q2⟩ := q1
      cases rx
      show wpAny _ _ (evalAll [do let v ← eval (.Lambda params body scope lpos) X.env; standAt pos; pure v]) _ _ s1
      refine wpAny_evalAll_cons (wpAny_bind (lam_made I1 TB hcode hm hu tb1 hdef hfree fun f c2 pm ctv H2 s2 sm tb2 hc2 I2 => wpAny_bind (wpAny_standAt (wpAny_pure (wpAny_evalAll_nil ?_)))))
      obtain ⟨kf, G, g, hG, hGc, hkey, fin⟩ := q2 H2 c2 sm tb2 hc2
      show wpAny _ _ (call (.builtin "min") [.ref t] [(Str.ofString "key", .ref f)]) _ _ s2
      refine min_run (I2.ok.hd hcalm) hG (fun i v u pins3 H3 s3 hv ru g3 hf3 I3 => ?_) List.mem_cons_self hne g I2 fun i v u H3 s3 b hv ru g3 I3 => ⟨v, H3, ClX.unpin I3, ru, fin i v H3 b hv g3⟩
      exact lam_call rfl I3 hf3 (hGc H3 g3) S cp hr (fun pm ctv us => hbind _ _ c2 pm ctv us) (fun A outer s H r => hbody f c2 A outer s H r) ru (hkey i v H3 hv g3)
end

/-! ### the data side -/
omit [Tbs] in
theorem Best.uniq {kf : Nat → Int} {j i l : Nat} (a : Best kf j i) (b : Best kf j l) : i = l := by
  have h1 := a.all l b.le
  have h2 := b.all i a.le
  rcases Nat.lt_trichotomy i l with c | c | c
  · have := h2.2 c; omega
  · exact c
  · have := h1.2 c; omega
def minIx (kf : Nat → Int) : Nat → Nat
  | 0 => 0
  | j + 1 => if kf (j + 1) < kf (minIx kf j) then j + 1 else minIx kf j
omit [Tbs] in
theorem minIx_best (kf : Nat → Int) : ∀ j, Best kf j (minIx kf j)
  | 0 => ⟨Nat.le_refl _, fun l hl => by
    have e : l = 0 := Nat.le_zero.mp hl
    subst e
    exact ⟨Int.le_refl _, fun z => absurd z (Nat.lt_irrefl _)⟩⟩
  | j + 1 => (minIx_best kf j).next
def toInt : D → R Int
  | .int i => .ok i
  | _ => .bad
def keyL (f : D → R D) : List D → R (List Int)
  | [] => .ok []
  | d :: ds => noX (f d >>= toInt) >>= fun i => keyL f ds >>= fun is => .ok (i :: is)
def gMinK (js : List Nat) (g gb : List D → R D) : List D → R D := fun ρ => g ρ >>= fun d => match d with
  | .tup ds => keyL (fun d => gb (d :: js.map fun j => ρ.getD j .non)) ds >>= fun is => oR ds[minIx (fun i => is.getD i 0) (ds.length - 1)]?
  | _ => .bad
omit [Tbs] in
theorem keyL_at {f : D → R D} : ∀ {ds : List D} {is : List Int}, keyL f ds = .ok is → is.length = ds.length ∧ ∀ (i : Nat) (d : D), ds[i]? = some d → f d = .ok (.int (is.getD i 0))
  | [], is, h => by cases h; exact ⟨rfl, fun i d e => by simp at e⟩
  | d :: ds, is, h => by
    unfold keyL at h
    cases hf : f d with
    | ok x =>
      rw [hf] at h
      cases x with
      | int i =>
        cases hr : keyL f ds with
        | ok r =>
          rw [hr] at h
          have e : is = i :: r := by cases h; rfl
          subst e
          obtain ⟨h1, h2⟩ := keyL_at hr
          refine ⟨by simp [h1], fun l d2 e => ?_⟩
          cases l with
          | zero => simp at e; subst e; exact hf
          | succ l =>
            have := h2 l d2 (by simpa using e)
            rw [this]; rfl
        | exc x => rw [hr] at h; cases h
        | bad => rw [hr] at h; cases h
      | _ => cases h
    | exc x => rw [hf] at h; cases h
    | bad => rw [hf] at h; cases h
omit [Tbs] in
theorem keyL_noexc {f : D → R D} : ∀ {ds : List D} {x : Ex}, keyL f ds ≠ .exc x
  | [], x => fun h => nomatch h
  | d :: ds, x => fun h => by
    unfold keyL at h
    cases hf : f d with
    | ok y =>
      rw [hf] at h
      cases y with
      | int i =>
        cases hr : keyL f ds with
        | ok r => rw [hr] at h; cases h
        | exc z => exact keyL_noexc hr
        | bad => rw [hr] at h; cases h
      | _ => cases h
    | exc z => rw [hf] at h; cases h
    | bad => rw [hf] at h; cases h
omit [Tbs] in
theorem slotAt_getD (σ : L2.St) (j : Nat) : NdefX.slotAt σ j = σ.getD j none := by
  unfold NdefX.slotAt
  rw [List.getD_eq_getElem?_getD]
  cases σ[j]? <;> rfl
/-- the lambda's frame: its parameter, what it captured (borrowed) -/
theorem Rel.lam {K : PySem.W.Frag} {F0 H0 F H : Hp} {Γ : List M} {ρ : List D} {σ : L2.St} {fps : Nat → List Addr} {N : List Str} {js : List Nat} {v : V} {d : D} (r : Rel K F0 H0 Γ ρ σ F H fps) (hv : Fz K F v d) (hN : N.length = js.length + 1) :
    Rel K F H (.fr :: js.map fun j => bor (Γ.getD j .un)) (d :: js.map fun j => ρ.getD j .non) (startF N [v] (js.map (NdefX.slotAt σ))) F H (fun _ => []) := by
  have b := r.borrow
  have e : startF N [v] (js.map (NdefX.slotAt σ)) = some v :: js.map (NdefX.slotAt σ) := by
    unfold startF
    rw [hN]
    simp
  rw [e]
  refine ⟨r.fh, Same.refl _, Same.refl _, r.tb, fun a o q => .inl q, by simp, by simp, fun i => ?_, fun _ => List.nodup_nil, (fun _ _ _ h => nomatch h), (fun _ _ h => nomatch h)⟩
  cases i with
  | zero => exact .inr ⟨v, rfl, rfl, hv, rfl⟩
  | succ i =>
    rw [List.getD_cons_succ, List.getD_cons_succ, List.getD_cons_succ]
    simp only [List.getD_eq_getElem?_getD, List.getElem?_map]
    cases hj : js[i]? with
    | none => exact .inl ⟨rfl, rfl⟩
    | some j =>
      have h := b.sl j
      have em : (Γ.map bor).getD j .un = bor (Γ.getD j .un) := by
        rw [List.getD_eq_getElem?_getD, List.getD_eq_getElem?_getD, List.getElem?_map]
        cases Γ[j]? <;> rfl
      rw [em] at h
      show So K H F H (bor (Γ.getD j .un)) (NdefX.slotAt σ j) (ρ.getD j .non) []
      rw [slotAt_getD]
      exact h
section
variable {K : PySem.W.Frag} {E : XK} {X : Cx} {Γ Γ' : List M} {e body : Expr} {te tb : TE} {m mb : M} {g gb : List D → R D} {p kpos pos lpos : Pos} {params : Arguments} {scope : Scope} {c P : Addr} {N fr : List Str} {pn : Str} {js : List Nat} {k kk : Nat}
theorem se_minKey (h : SE K E Γ te m g) (hK : X.K = K) (hb : SE K E0 Γ' tb mb gb) (hΓ : Γ' = .fr :: js.map fun j => bor (Γ.getD j .un)) (hN : N.length = js.length + 1) : SE K E Γ (tMinK X N js te tb) .fr (gMinK js g gb) := fun F0 H0 ρ σ F H fps Q r q => by
  subst hΓ
  subst hK
  refine h.pk F0 H0 ρ σ F H fps _ r ((RP.bind q).imp (fun d hd v F1 H1 fp1 x1 rv f1 => ?_) fun _ z => z)
  cases d with
  | tup ds =>
    have hd : RP (keyL _ ds >>= _) _ _ := hd
    cases hk : keyL (fun d => gb (d :: js.map fun j => ρ.getD j .non)) ds with
    | ok is =>
      rw [hk] at hd
      have hd : RP (oR ds[minIx (fun i => is.getD i 0) (ds.length - 1)]?) _ _ := hd
      obtain ⟨t, vs, rfl, h1, h2⟩ := (show Bo X.K H1 F1 v (.tup ds) from rv.1).tupOf
      obtain ⟨hl, hat⟩ := keyL_at hk
      cases h0 : ds[minIx (fun i => is.getD i 0) (ds.length - 1)]? with
      | none => rw [h0] at hd; exact (show False from hd).elim
      | some d0 =>
        rw [h0] at hd
        have hd : VP X.K H0 F H .fr d0 Q := hd
        have hpos : 0 < vs.length := by
          rw [h2.length]
          have := (List.getElem?_eq_some_iff.mp h0).1
          omega
        refine ⟨t, vs, rfl, x1.tb r.tb, hpos, fun H2 c2 sm tb2 hc2 => ?_⟩
        have x2 : Ext F1 H1 F1 H2 := ⟨Same.refl _, sm, x1.fh.trans sm, fun _ _ z => .inl z, fun _ => tb2⟩
        refine ⟨fun i => is.getD i 0, fun H3 => ∃ F3, Ext F1 H2 F3 H3, ⟨F1, Ext.refl x2.fh⟩, fun H3 ⟨F3, x3⟩ => Same.sqt (x3.f.trans x3.fh) h1, fun H3 ⟨F3, x3⟩ => x3.h.at_ hc2, fun i v H3 hv ⟨F3, x3⟩ => ?_, fun i v H3 b hv ⟨F3, x3⟩ => ?_⟩
        · obtain ⟨d, hd2, fz⟩ := h2.getV hv
          have rel := ((r.ext x1).ext x2).ext x3
          refine hb.pk F3 H3 _ _ F3 H3 _ _ (rel.lam (fz.mono x3.f) hN) ?_
          rw [hat i d hd2]
          exact fun y F4 H4 fp4 x4 ry f4 => ⟨ry.1.intOf, F4, x3.trans x4⟩
        · have ei : i = minIx (fun i => is.getD i 0) (ds.length - 1) := by
            rw [h2.length] at b
            exact b.uniq (minIx_best _ _)
          obtain ⟨d, hd2, fz⟩ := h2.getV hv
          rw [ei, h0] at hd2
          cases hd2
          exact hd v F3 H3 [] (x1.trans (x2.trans x3)) ⟨fz.mono x3.f, rfl⟩ Fresh.nil
    | exc x => exact absurd hk keyL_noexc
    | bad => rw [hk] at hd; exact (show False from hd).elim
  | _ => exact (show False from hd).elim
/-- min(t, key=lambda p: body) -/
theorem de_minKey (N fr : List Str) (pn : Str) (js : List Nat) (kk : Nat) (U : Uni K E k X) (h : DE K E X Γ e te m g) (TB : TabB X.base X.mg c P) (hcode : X.env.code = .ref c) (hm : (P, lamQ X) ∈ Tbs.T) (hu : ∀ p ∈ Tbs.T, p.1 = P → p.2 = lamQ X)
    (hb : ∀ (f c2 : Addr) (A : Around) (outer : List Env) (s : Shared) (H : Hp), Uni K E0 kk (ncx (L2.CX X.prog X.w) X.prog X.w X.K X.mg X.base N (lamF X scope c2) f A outer s H E0) →
      DE K E0 (ncx (L2.CX X.prog X.w) X.prog X.w X.K X.mg X.base N (lamF X scope c2) f A outer s H E0) Γ' body tb mb gb)
    (hΓ : Γ' = .fr :: js.map (fun j => bor (Γ.getD j .un)) := by rfl) (hN : N.length = js.length + 1 := by rfl) (S : NScope N [pn] fr scope := by exact NdefX.nscope_by (by decide +kernel)) (hnd : ndefB X.env.scope scope fr = true := by kernel_rfl) (hjs : js.map (fun j => X.N[j]?) = fr.map some := by rfl) (hk : kk + 2 ≤ k := by decide)
    (hbind : ∀ (cl : List (Str × Addr)) (q : Str) (c2 : Addr) (pm ctv us : Value), bindArgs (PySem.W.kla_fn "<lambda>" q params body scope cl pm (.ref c2) ctv) ⟨[us], []⟩ = pure [(pn, us)] := by intros; rfl) (hg : Gl X "min" := by rfl) (hdef : defaultsOf params X.env = ([], []) := by rfl)
    (h1 : backTo pos (starEach [e] X.env) = (false, eval e X.env) :: backTo pos (starEach [] X.env) := by rfl) (h2 : (backTo pos (starEach [e] X.env)).any (·.1) = false := by rfl) (hs : starEach [e] X.env = (false, eval e X.env) :: starEach [] X.env := by rfl) :
    DE K E X Γ (.Call (.Name "min" p) [e] [⟨some "key", .Lambda params body scope lpos, kpos⟩] pos) (tMinK X N js te tb) .fr (gMinK js g gb) := by
  have e0 := U.K
  have UL : ∀ (f c2 : Addr) (A : Around) (outer : List Env) (s : Shared) (H : Hp), Room kk (A.deeper (envF (lamF X scope c2) f s.heap.objs.size)) → Uni K E0 kk (ncx (L2.CX X.prog X.w) X.prog X.w X.K X.mg X.base N (lamF X scope c2) f A outer s H E0) := fun f c2 A outer s H r =>
    ⟨U.K, S.nd, rfl, r, r.units, passes_of rfl, passL, L2.takes0, U.bn⟩
  have r1 : Room (kk + 2) X.A := U.room.mono hk
  refine ⟨pe_minKey U.bn.min h.pe TB hcode hm hu S hnd hjs r1 U.calm hbind (fun f c2 A outer s H r => (hb f c2 A outer s H (UL f c2 A outer s H r)).pe) hg hdef h1 h2 hs, ?_⟩
  exact se_minKey h.se e0 (hb 0 0 X.A.in1 [] X.s_0 (fun _ => none) (UL 0 0 X.A.in1 [] X.s_0 _ (r1.in1.deeper _))).se hΓ hN
end
/-- a def whose code object is known -/
theorem fn_bodyC {P : Program} {w : World} {K : PySem.W.Frag} {mg : Str → Option Value} {base : Heap} {x qual : Str} {st : Stmt} {a c : Addr} {fd : FuncData} {N ps : List Str} {k : Nat} {ms : List M} {mr : M} {n b c' : List M} {f : List D → R D} (g : List D → R Fl)
    (hf : f = runF N.length g) (B : Bn mg) (F : Fun K x qual st a fd) (hc : fd.code = .ref c) (S : FnScope N ps (defScope st)) (hl : ms.length = ps.length) (hr : mr.fz = true)
    (body : ∀ (A : Around) (outer : List Env) (s : Shared) (H : Hp) (E : XK), Uni K E k (cxOf (L2.CX P w) P w K mg base N qual (defScope st) a (.ref c) A outer s H E) →
      ∃ t, DSs K E (cxOf (L2.CX P w) P w K mg base N qual (defScope st) a (.ref c) A outer s H E) (startG N.length ms) (defBody st) t n b c' mr g) :
    FnOk P w K mg base (L2.CX P w) (k + 1) a fd ps (spD K ms mr f) := by
  subst hf
  obtain ⟨oc, od, kV, doc, pm, an, cdv, ct, osl, rfl, lk, hcd⟩ := F.ex
  have ec : cdv = .ref c := hc
  subst ec
  refine fn_of lk hcd S (fun vs H Q E ⟨F, ds, _, _, h, _⟩ => by rw [h.lens.1, hl]) fun A outer s H vs Q E hr1 ⟨F, ds, eF, tb, h, q⟩ => ?_
  have tk := takes_of (X := cxOf (L2.CX P w) P w K mg base N qual (defScope st) a (.ref c) A outer s H E) (E := E) rfl rfl rfl rfl
  have U : Uni K E k (cxOf (L2.CX P w) P w K mg base N qual (defScope st) a (.ref c) A outer s H E) := ⟨rfl, S.nd, rfl, hr1, hr1.units, passes_of rfl, passes_call tk fun _ _ _ _ h => h, tk, B⟩
  obtain ⟨t, hb⟩ := body A outer s H E U
  refine ⟨t, hb.ps, hb.ss F H _ _ F H _ _ (Rel.start eF tb h ?_) ((RP.bind q).imp (fun fl hf => ?_) fun _ z => z)⟩
  · rw [hl]
    have e := congrArg List.length S.pre
    rw [List.length_take] at e
    omega
  · cases fl with
    | nx ρ =>
      intro σ' F' H' fps' s rel
      refine (show VP K H F H mr .non Q from hf) .non F' H' [] rel.x0 ?_ Fresh.nil
      cases mr with
      | fr => exact ⟨.non, rfl⟩
      | ow m => exact ⟨.non, rfl⟩
      | _ => cases hr
    | rt d => exact fun v F' H' fp x rv f => hf v F' H' fp x (rv.to hr) f
    | bk _ => exact (show False from hf).elim
    | ct _ => exact (show False from hf).elim
end DL
/-! DLob: frozen objects of one field: they are made by __init__, read, their methods called by their class. -/
namespace DL
open PySem PySem.Spec PyProof.Rows L2
variable [Tbs]
/-- what an __init__ does that stores one text at the field n -/
def spI (K : PySem.W.Frag) (n w : Str) : Sp := fun vs H Q _ => ∃ (x C dx : Addr) (fs : List (Str × V)), vs = [.ref x] ∧ H x = some (.ins C dx fs) ∧ Cls K C ∧ NoAttr K C n ∧ (fs = [] ∨ ∃ v, fs = [(n, v)]) ∧ Q .non (upd H x (.ins C dx [(n, .str w)]))
omit [Tbs] in
theorem putF_one {n : Str} {v : V} {fs : List (Str × V)} (h : fs = [] ∨ ∃ v, fs = [(n, v)]) : putF n v fs = [(n, v)] := by
  rcases h with rfl | ⟨u, rfl⟩
  · rfl
  · show (if n = n then _ else _) = _
    rw [if_pos rfl]
omit [Tbs] in
theorem small_one {n : Str} {fs : List (Str × V)} (h : fs = [] ∨ ∃ v, fs = [(n, v)]) : fs.length < 1000 := by
  rcases h with rfl | ⟨u, rfl⟩
  · show 0 < 1000; decide
  · show 1 < 1000; decide
section
variable {X : Cx} {k : Nat} {C f : Addr} {fd : FuncData} {ps : List Str} {sp : Sp} {dvs : List V} {ds : List Value} {E : XK} {m : Str} {p apos pos : Pos} {e o : Expr} {es : List Expr} {t : TA} {mc : Value}
/-- C.m(e, ..), C an own class, m a def of it -/
theorem pe_clsCall {pl : Sem Bool} {x : Str} (hx0 : X.mg x = some (.ref C)) (hg : Gl X x) (r : ClX.CRead X.K C mc) (c : ClX.CVal X.K C mc m (.ref f) (.ref f)) (hk : PySem.W.keepIn X.K (.ref f) = true) (F : FnOk X.prog X.w X.K X.mg X.base (L2.CX X.prog X.w) k f fd ps sp) (hr : Room k X.A) (hb : Binds X.K fd ps ds) (hd : Vals dvs ds)
    (hx : Passes (L2.CX X.prog X.w) X E) (ha : PA X (e :: es) t) (hdb : (x == ("__debug__" : Str)) = false) (hst : starEach (e :: es) X.env = (false, eval e X.env) :: starEach es X.env) (hpl : (backTo pos (starEach es X.env)).any (·.1) = false)
    (ht : eval (.Call (.Attribute (.Name x p) m apos) (e :: es) [] pos) X.env = (do
      let ov ← eval (.Name x p) X.env; standAt apos.atName; let (f, first) ← holding [ov] (getMethod ov m pl)
      callWith pos f first (backTo pos (starEach (e :: es) X.env)) (backToKw pos (keywordEach [] X.env)))) :
    PE X (.Call (.Attribute (.Name x p) m apos) (e :: es) [] pos) (tCall sp dvs E t) := by
  refine ⟨fun pins s σ H Q I h => ?_⟩
  refine PySem.W.methodCall_KW (pl := pl) (thn ((pe_glob (v := .ref C) hg hx0 rfl hdb).run pins s σ H (fun v H1 => v = .ref C ∧ H1 = H) I ⟨rfl, rfl⟩) fun u s1 ⟨v, H1, I1, rx, ev, eH⟩ => ?_) ht
  subst ev eH
  cases rx
  refine PySem.W.method_cls I1.kIn r.ga (ClX.getcval_ok I1 r c fun s2 I2 => ?_)
  refine PySem.W.callWith_K (first := []) (h₀ := X.base) I2.ok.mod.kin hk (thn (ha.run pos pins s2 σ _ _ I2 h) fun us s3 ⟨vs, H2, I3, rv, q2⟩ => ⟨I3.kIn, ?_⟩) hst hpl
  exact run_fn F hr hb hd hx I3 rv q2
end
/-! ### __init__ -/
section
variable {P : Program} {w : World} {K : PySem.W.Frag} {mg : Str → Option Value} {base : Heap} {a C f : Addr} {fd fd2 : FuncData} {x qual n tx self cx : Str} {st : Stmt} {sc : Scope} {p1 p2 p3 p4 p5 p6 p7 p8 : Pos} {j : Nat} {mc : Value}
/-- def __init__(self): self.n = "tx" -/
theorem init_base (F : Fun K x qual st a fd) (S : FnScope [self] [self] (defScope st)) (hb : defBody st = [.Assign [.Attribute (.Name self p1) n p2] (.Constant (.str tx) j p3) p4])
    (hs : ∀ env : Env, swapsWith (.Constant (.str tx) j p3) (some (.Attribute (.Name self p1) n p2)) p4.line env = pure false := by intro _; rfl) (hd1 : (self == ("__debug__" : Str)) = false := by decide) (hd2 : (self == ("__classdict__" : Str)) = false := by decide)
    (hv : Vis (defScope st) self := by first | exact Or.inl rfl | exact Or.inr (Or.inl rfl)) :
    FnOk P w K mg base (L2.CX P w) 1 a fd [self] (spI K n tx) := by
  refine F.okX S (fun vs H Q E ⟨x, C, dx, fs, e, _⟩ => by rw [e]; rfl) fun cdv A outer s H vs Q E hr ⟨x, C, dx, fs, e, h1, h2, h3, h4, q⟩ => ?_
  subst e
  refine ⟨_, by rw [hb]; exact pss_one (ps_fld (pe_var (i := 0) rfl hv hd1 hd2) pe_str (hs _)), ?_⟩
  refine ⟨_, rfl, x, C, dx, fs, rfl, h1, h2, h3, small_one h4, ?_⟩
  rw [putF_one h4]
  exact q
/-- def __init__(self): C.__init__(self); self.n = "tx" -/
theorem init_over {tx0 : Str} {ps : List Str} (F : Fun K x qual st a fd) (S : FnScope [self] [self] (defScope st))
    (hb : defBody st = [.Expr (.Call (.Attribute (.Name cx p5) "__init__" p6) [.Name self p7] [] p8) p8, .Assign [.Attribute (.Name self p1) n p2] (.Constant (.str tx) j p3) p4])
    (hC : mg cx = some (.ref C)) (r : ClX.CRead K C mc) (c : ClX.CVal K C mc "__init__" (.ref f) (.ref f)) (hk : PySem.W.keepIn K (.ref f) = true) (F2 : FnOk P w K mg base (L2.CX P w) 1 f fd2 ps (spI K n tx0)) (b2 : Binds K fd2 ps [])
    (hg : (defScope st).names.lookup cx = some .globalImplicit := by rfl) (hdb : (cx == ("__debug__" : Str)) = false := by decide)
    (hs : ∀ env : Env, swapsWith (.Constant (.str tx) j p3) (some (.Attribute (.Name self p1) n p2)) p4.line env = pure false := by intro _; rfl) (hd1 : (self == ("__debug__" : Str)) = false := by decide) (hd2 : (self == ("__classdict__" : Str)) = false := by decide)
    (ht : ∀ env : Env, eval (.Call (.Attribute (.Name cx p5) "__init__" p6) [.Name self p7] [] p8) env = (do
      let ov ← eval (.Name cx p5) env; standAt p6.atName; let (f, first) ← holding [ov] (getMethod ov "__init__" (plainOf (.Name cx p5) env))
      callWith p8 f first (backTo p8 (starEach [.Name self p7] env)) (backToKw p8 (keywordEach [] env))) := by intro _; rfl)
    (hv : Vis (defScope st) self := by first | exact Or.inl rfl | exact Or.inr (Or.inl rfl)) :
    FnOk P w K mg base (L2.CX P w) 2 a fd [self] (spI K n tx) := by
  refine F.okX S (fun vs H Q E ⟨x, C, dx, fs, e, _⟩ => by rw [e]; rfl) fun cdv A outer s H vs Q E hr ⟨x, D, dx, fs, e, h1, h2, h3, h4, q⟩ => ?_
  subst e
  have tk := takes_of (X := cxOf (L2.CX P w) P w K mg base [self] qual (defScope st) a cdv A outer s H E) (E := E) rfl rfl rfl rfl
  refine ⟨_, by rw [hb]; exact pss_cons (ps_expr (pe_clsCall (pl := plainOf (.Name cx p5) _) (X := cxOf (L2.CX P w) P w K mg base [self] qual (defScope st) a cdv A outer s H E) (E := E) hC hg r c hk F2 hr b2 .nil (passes_call tk fun _ _ _ _ h => h) (pa_cons (pe_var (i := 0) rfl hv hd1 hd2) pa_nil) hdb rfl rfl (ht _))) (pss_one (ps_fld (pe_var (i := 0) rfl hv hd1 hd2) pe_str (hs _))), ?_⟩
  refine ⟨_, rfl, x, D, dx, fs, rfl, h1, h2, h3, h4, ?_⟩
  refine ⟨_, rfl, x, D, dx, _, rfl, upd_same, h2, h3, (by show 1 < 1000; decide), ?_⟩
  rw [upd_upd, putF_one (.inr ⟨_, rfl⟩)]
  exact q
end
section
variable {K : PySem.W.Frag} {E : XK} {X : Cx} {Γ : List M} {o e : Expr} {es : List Expr} {to : TE} {t : TA} {g : List D → R D} {gr : List D → R (List D)} {pos p apos : Pos} {i j k : Nat} {x n tx m : Str}
/-- C(), an object of one field -/
theorem de_make0 {C f : Addr} {fd : FuncData} {ps : List Str} (U : Uni K E k X) (M : Mk K C f) (c : Cls K C) (na : NoAttr K C n) (F : FnOk X.prog X.w K X.mg X.base (L2.CX X.prog X.w) j f fd ps (spI K n tx)) (hm : X.mg x = some (.ref C)) (hb : Binds K fd ps [])
    (hj : j + 1 ≤ k := by decide) (hg : Gl X x := by rfl) (hdb : (x == ("__debug__" : Str)) = false := by decide) : DE K E X Γ (.Call (.Name x p) [] [] pos) (tMake C (spI K n tx) [] E tNil) .fr (gc (.ob C [n] [.str tx])) := by
  have e0 := U.K
  subst e0
  refine ⟨pe_make0 M F (U.room.mono hj) hg hm hb .nil U.pass hdb, fun F0 H0 ρ σ F H fps Q r q => ?_⟩
  have q : VP X.K H0 F H .fr (.ob C [n] [.str tx]) Q := q
  intro a dx ha hdx ne
  have nd : upd H dx (.own a) a = none := by rw [upd_ne (Ne.symm ne)]; exact ha
  refine ⟨a, C, dx, [], rfl, upd_same, c, na, .inl rfl, rfl, ?_⟩
  rw [upd_upd]
  have x1 := Ext.laid (o := .own a) r.fh hdx
  have x2 := Ext.laid (o := .ins C dx [(n, .str tx)]) x1.fh nd
  refine q (.ref a) _ _ [] (x1.trans x2) ⟨?_, rfl⟩ Fresh.nil
  exact Fz.ob (fs := [(n, .str tx)]) upd_same (by rw [upd_ne ne, upd_same]) (.cons (.str _) .nil)
/-- a class whose method m is f -/
structure MEnt (P : Program) (w : World) (K : PySem.W.Frag) (mg : Str → Option Value) (base : Heap) (m : Str) (j : Nat) (ms : List DL.M) (mr : DL.M) (q : Addr × (List D → R D)) : Prop where
  c : Cls K q.1
  h : ∃ f fd ps, Meth K q.1 m f ∧ FnOk P w K mg base (L2.CX P w) j f fd ps (spD K (.fr :: ms) mr q.2) ∧ Binds K fd ps []
def gMeth (m : Str) (tab : List (Addr × (List D → R D))) (g : List D → R D) (gr : List D → R (List D)) : List D → R D := fun ρ => g ρ >>= fun d => match d with
  | .ob C ns ds => if ns.contains m = true then .bad else (match tab.lookup C with
    | some f => gr ρ >>= fun as => f (.ob C ns ds :: as)
    | none => .bad)
  | _ => .bad
def tMethW (m : Str) (K : PySem.W.Frag) (ms : List DL.M) (mr : DL.M) (tab : List (Addr × (List D → R D))) (E : XK) (to : TE) (t : TA) : TE := fun σ H Q => to σ H fun x H1 => ∃ q ∈ tab, ∃ a dx fs, x = .ref a ∧ H1 a = some (.ins q.1 dx fs) ∧ fs.lookup m = none ∧
  t σ H1 fun vs H2 => spD K (.fr :: ms) mr q.2 (x :: vs) H2 Q E
theorem pe_methW {ms : List DL.M} {mr : DL.M} {tab : List (Addr × (List D → R D))} {pl : Sem Bool} (hT : ∀ q ∈ tab, MEnt X.prog X.w X.K X.mg X.base m j ms mr q) (he : PE X o to) (hr : Room j X.A) (hx : Passes (L2.CX X.prog X.w) X E) (ha : PA X (e :: es) t)
    (hst : starEach (e :: es) X.env = (false, eval e X.env) :: starEach es X.env) (hpl : (backTo pos (starEach es X.env)).any (·.1) = false)
    (ht : eval (.Call (.Attribute o m apos) (e :: es) [] pos) X.env = (do
      let ov ← eval o X.env; standAt apos.atName; let (f, first) ← holding [ov] (getMethod ov m pl)
      callWith pos f first (backTo pos (starEach (e :: es) X.env)) (backToKw pos (keywordEach [] X.env)))) :
    PE X (.Call (.Attribute o m apos) (e :: es) [] pos) (tMethW m X.K ms mr tab E to t) := by
  refine ⟨fun pins s σ H Q I h => ?_⟩
  refine PySem.W.methodCall_KW (pl := pl) (thn (he.run pins s σ H _ I h) fun u s1 ⟨y, H1, I1, ry, q, hq, a, dx, fs, ey, ea, l, hh⟩ => ?_) ht
  obtain ⟨c, f, fd, ps, hm, F, b⟩ := hT q hq
  subst ey
  cases ry
  refine getmeth_ok I1 ea c hm l (PySem.W.callWith_K (first := [.ref a]) (h₀ := X.base) I.ok.mod.kin hm.kp (thn (ha.run pos pins s1 σ H1 _ I1 hh) fun us s2 ⟨vs, H2, I2, rv, q2⟩ => ⟨I2.kIn, ?_⟩) hst hpl)
  exact run_fn (us := .ref a :: us) (vs := .ref a :: vs) F hr b .nil hx I2 (.cons rfl rv) (by rw [List.append_nil]; exact q2)
omit [Tbs] in
theorem lookup_ns {m : Str} : ∀ {fs : List (Str × V)}, (fs.map (·.1)).contains m = false → fs.lookup m = none
  | [], _ => rfl
  | (n, v) :: fs, h => by
    rw [List.map_cons, List.contains_cons, Bool.or_eq_false_iff] at h
    rw [List.lookup_cons, h.1]
    exact lookup_ns h.2
theorem se_methW {ms : List DL.M} {mr : DL.M} {tab : List (Addr × (List D → R D))} (h : SE K E Γ to .fr g) (h2 : SA K E Γ t ms gr) (hr : mr.fz = true) (hm : ∀ m ∈ ms, m = .fr ∨ m = .pk) : SE K E Γ (tMethW m K ms mr tab E to t) mr (gMeth m tab g gr) := fun F0 H0 ρ σ F H fps Q r q => by
  refine h F0 H0 ρ σ F H fps _ r ((RP.bind q).imp (fun d hd v F1 H1 fp1 x1 rv f1 => ?_) fun _ z => z)
  cases d with
  | ob C ns ds =>
    have hd : RP (if ns.contains m = true then .bad else _) _ _ := hd
    by_cases c : ns.contains m = true
    · rw [if_pos c] at hd; exact (show False from hd).elim
    · rw [if_neg c] at hd
      cases hl : tab.lookup C with
      | none => rw [hl] at hd; exact (show False from hd).elim
      | some f =>
        rw [hl] at hd
        have hd : RP (gr ρ >>= fun as => f (.ob C ns ds :: as)) _ _ := hd
        have fz : Fz K F1 v (.ob C ns ds) := rv.1
        have fz0 := fz
        generalize hdd : D.ob C ns ds = dd at fz
        cases fz with
        | @ob a C2 dx fs ds2 a1 a2 a3 =>
          cases hdd
          refine ⟨(C, f), lookup_memF hl, a, dx, fs, rfl, x1.fh.at_ a1, lookup_ns (by simpa using c), ?_⟩
          refine h2 F0 H0 ρ σ F1 H1 fps _ (r.ext x1) ((RP.bind hd).imp (fun as ha vs F2 H2 x2 rvs => ?_) fun _ z => z.on x1)
          exact ⟨F2, .ob C (fs.map (·.1)) ds :: as, x2.fh, x2.tb (x1.tb r.tb), .cons ⟨fz0.mono x2.f, rfl⟩ (rvs.base hm), ha.imp (fun d hd => VP.base hr (VP.on (VP.on hd x1) x2)) fun _ z => (z.on x1).on x2⟩
        | _ => cases hdd
  | _ => exact (show False from hd).elim
/-- o.m(e, ..), o a frozen object of one of the classes of the table -/
theorem de_methW {ms : List DL.M} {mr : DL.M} {tab : List (Addr × (List D → R D))} (U : Uni K E k X) (hT : ∀ q ∈ tab, MEnt X.prog X.w K X.mg X.base m j ms mr q) (h : DE K E X Γ o to .fr g) (ha : DA K E X Γ (e :: es) t ms gr) (hj : j ≤ k := by decide) (hr : mr.fz = true := by rfl) (hm : ∀ m ∈ ms, m = .fr ∨ m = .pk := by simp)
    (hst : starEach (e :: es) X.env = (false, eval e X.env) :: starEach es X.env := by rfl) (hpl : (backTo pos (starEach es X.env)).any (·.1) = false := by rfl)
    (ht : eval (.Call (.Attribute o m apos) (e :: es) [] pos) X.env = (do
      let ov ← eval o X.env; standAt apos.atName; let (f, first) ← holding [ov] (getMethod ov m (plainOf o X.env))
      callWith pos f first (backTo pos (starEach (e :: es) X.env)) (backToKw pos (keywordEach [] X.env))) := by rfl) :
    DE K E X Γ (.Call (.Attribute o m apos) (e :: es) [] pos) (tMethW m K ms mr tab E to t) mr (gMeth m tab g gr) := by
  have e0 := U.K
  subst e0
  exact ⟨pe_methW hT h.pe (U.room.mono hj) U.pass ha.pa hst hpl ht, se_methW h.se ha.sa hr hm⟩
end
/-! ### bundles for the text that prints walks -/
/-- an own class whose objects hold one text -/
structure ObjC (P : Program) (w : World) (K : PySem.W.Frag) (mg : Str → Option Value) (base : Heap) (x n tx : Str) (C : Addr) : Prop where
  g : mg x = some (.ref C)
  c : Cls K C
  na : NoAttr K C n
  h : ∃ f fd ps, Mk K C f ∧ FnOk P w K mg base (L2.CX P w) 2 f fd ps (spI K n tx) ∧ Binds K fd ps []
theorem de_makeO {K : PySem.W.Frag} {E : XK} {X : Cx} {Γ : List M} {pos p : Pos} {k : Nat} {x n tx : Str} {C : Addr} (U : Uni K E k X) (O : ObjC X.prog X.w K X.mg X.base x n tx C)
    (hj : 3 ≤ k := by decide) (hg : Gl X x := by rfl) (hdb : (x == ("__debug__" : Str)) = false := by decide) : DE K E X Γ (.Call (.Name x p) [] [] pos) (tMake C (spI K n tx) [] E tNil) .fr (gc (.ob C [n] [.str tx])) := by
  obtain ⟨f, fd, ps, m, F, b⟩ := O.h
  exact de_make0 U m O.c O.na F O.g b hj hg hdb
theorem MEnt.of {P : Program} {w : World} {K : PySem.W.Frag} {mg : Str → Option Value} {base : Heap} {m : Str} {i j : Nat} {ms : List DL.M} {mr : DL.M} {C f : Addr} {fd : FuncData} {ps : List Str} {g : List D → R D} (c : Cls K C) (hm : Meth K C m f) (F : FnOk P w K mg base (L2.CX P w) i f fd ps (spD K (.fr :: ms) mr g)) (h : i ≤ j) (b : Binds K fd ps []) :
    MEnt P w K mg base m j ms mr (C, g) := ⟨c, f, fd, ps, hm, F.mono h, b⟩
/-! ### classes stand apart: their methods have other names -/
def qualIn (K : PySem.W.Frag) (m : Str) (C : Addr) : Str := match PySem.W.findIn K (.ref C) m with
  | some (some (.ref p)) => (match K.lookup p with
    | some ⟨_, _, .func fd, _⟩ => fd.qualname
    | _ => "")
  | _ => ""
omit [Tbs] in
theorem qualIn_of {K : PySem.W.Frag} {m : Str} {C p : Addr} {oc : Value} {od : Option Addr} {fd : FuncData} {sl : Array (Option Value)} (h : PySem.W.findIn K (.ref C) m = some (some (.ref p))) (l : K.lookup p = some ⟨oc, od, .func fd, sl⟩) : qualIn K m C = fd.qualname := by
  unfold qualIn
  rw [h]
  show (match K.lookup p with
    | some ⟨_, _, .func fd, _⟩ => fd.qualname
    | _ => "") = _
  rw [l]
omit [Tbs] in
theorem apart_by {α β : Type} {f : α → β} {l : List α} {qs : List β} (h : l.map f = qs) (n : qs.Nodup) : l.Nodup := by
  subst h
  exact List.Pairwise.of_map f (fun a b h e => h (congrArg f e)) n
end DL
/-! DLtb: the end of a law whose text makes lambdas. -/
namespace DL
open PySem PySem.Spec PyProof.Rows L2 LamX
@[reducible] def tbsOf (T : List (Addr × Str)) : Tbs := ⟨T⟩
/-- the tables at the entry: empty -/
theorem tbs_start {T : List (Addr × Str)} {cs : List (Addr × Addr)} {H : Hp} (h : ∀ p ∈ cs, H p.2 = some (.tbl #[])) (hT : ∀ p ∈ T, ∃ c, (c, p.1) ∈ cs) : @TbsOk (tbsOf T) H := fun p hp =>
  (hT p hp).elim fun c hc => TabS.nil (h _ hc)
theorem walk_lawT {l : PySem.W.OpenLaw} {k : Nat} {q : Program} {loose : List Str} {XP : (Str → Option Value) → Heap → Prop} {YP : World → Heap → Prop} {d : DefRec} {K : Params → PySem.W.Frag} {x : Str}
    (hn : l.most = some 63) (hdf : d.params.defaults = []) (hr : Room k callerA) (hY : ∀ (w : World) (h : Heap), YP w h → (K w.params).In h)
    (F : ∀ (w : World) (mg : Str → Option Value) (fa : Addr) (h : Heap), YP w h → (K w.params).In h → h.Ns mainGlobals mg → mg d.name = some (.ref fa) →
      ∃ (fd : FuncData) (T : List (Addr × Str)) (cs : List (Addr × Addr)), (∀ p ∈ T, ∃ c, (c, p.1) ∈ cs) ∧ (∀ p ∈ cs, h.get? p.2 = some { cls := .none, data := .fields #[] }) ∧ (∀ p ∈ cs, (K w.params).lookup p.2 = none) ∧ (∀ p ∈ cs, PySem.W.CodeHd h p.1 p.2) ∧
        (∀ (s : Shared) (u : Value), BindsTo s fd ⟨[u], []⟩ [(x, u)]) ∧
        ∀ base : Heap, (K w.params).In base → base.Ns mainGlobals mg → (∀ p ∈ cs, TabB base mg p.1 p.2) → FnOk l.prog w (K w.params) mg base (L2.CX l.prog w) k fa fd [x] (@spT (tbsOf T) (K w.params))) :
    PySem.W.WalkO q loose XP YP l.row.toRowW d [] (fun f vs => PySem.call f vs) :=
  walk_ofTs (n := 63) (k := k) (x := x) (CX := fun w => L2.CX l.prog w) hn (by decide) hdf hr hY
    (fun w mg fa h Y KX G hm => by
      obtain ⟨fd, T, cs, hT, h1, h2, h3, h4, h5⟩ := F w mg fa h Y KX G hm
      exact ⟨fd, cs, @spT (tbsOf T) (K w.params), h1, h2, h3, h4, fun H a ns hl hb ht hS => ⟨a, ns, rfl, hS, hl, hb, tbs_start ht hT, fun _ => rfl⟩, h5⟩)
    fun w H s e s' h => by
        obtain ⟨_, _, _, _, _, _, _, _, _, _, _, _, z⟩ := h
        exact z
end DL
/-! DLrm: x.remove(k), x an own list of whole numbers. -/
namespace DL
open PySem L2
variable [Tbs]
/-- the place of the first k, where all items up to it are whole numbers -/
def remIx (k : Int) : List D → Option Nat
  | [] => none
  | .int i :: ds => if i = k then some 0 else (remIx k ds).map (· + 1)
  | _ => none
def allInt : List D → Option (List Int)
  | [] => some []
  | .int i :: ds => (allInt ds).map (i :: ·)
  | _ => none
omit [Tbs] in
theorem allInt_eq : ∀ {ds : List D} {ns : List Int}, allInt ds = some ns → ds = ns.map D.int
  | [], ns, h => by cases h; rfl
  | .int i :: ds, ns, h => by
    obtain ⟨ms, h1, rfl⟩ := Option.map_eq_some_iff.mp (show (allInt ds).map (i :: ·) = some ns from h)
    rw [List.map_cons, allInt_eq h1]
  | .non :: _, _, h => nomatch h
  | .bl _ :: _, _, h => nomatch h
  | .str _ :: _, _, h => nomatch h
  | .tup _ :: _, _, h => nomatch h
  | .lst _ :: _, _, h => nomatch h
  | .ob _ _ _ :: _, _, h => nomatch h
  | .cl _ :: _, _, h => nomatch h
  | .ex _ _ :: _, _, h => nomatch h
omit [Tbs] in
theorem remIx_int {k : Int} : ∀ {ns : List Int} {j : Nat}, remIx k (ns.map D.int) = some j → ns[j]? = some k ∧ ∀ m : Nat, m < j → ns[m]? ≠ some k
  | [], j, h => nomatch h
  | i :: ns, j, h => by
    have h : (if i = k then some 0 else (remIx k (ns.map D.int)).map (· + 1)) = some j := h
    by_cases e : i = k
    · rw [if_pos e] at h
      cases h
      exact ⟨by rw [e]; rfl, fun m hm => absurd hm (Nat.not_lt_zero m)⟩
    · rw [if_neg e] at h
      obtain ⟨l, h1, rfl⟩ := Option.map_eq_some_iff.mp h
      obtain ⟨a, b⟩ := remIx_int h1
      refine ⟨by simpa using a, fun m hm => ?_⟩
      cases m with
      | zero => simpa using e
      | succ m => simpa using b m (by omega)
omit [Tbs] in
theorem erase_map {α β : Type} (f : α → β) : ∀ (l : List α) (j : Nat), (l.map f).eraseIdx j = (l.eraseIdx j).map f
  | [], _ => rfl
  | _ :: _, 0 => rfl
  | a :: l, j + 1 => by
    show f a :: (l.map f).eraseIdx j = f a :: (l.eraseIdx j).map f
    rw [erase_map f l j]
def gRem (i : Nat) (g : List D → R D) : List D → R Fl := fun ρ => match ρ.getD i .non with
  | .lst ds => g ρ >>= fun d => match d with
    | .int k => (match allInt ds, remIx k ds with
      | some _, some j => .ok (.nx (ρ.set i (.lst (ds.eraseIdx j))))
      | _, _ => .bad)
    | _ => .bad
  | _ => .bad
section
variable {K : PySem.W.Frag} {E : XK} {X : Cx} {Γ b c : List M} {e : Expr} {te : TE} {me r : M} {g : List D → R D} {p1 p2 p3 pos : Pos} {k : Nat}
theorem ss_rem {i : Nat} (hi : Γ[i]? = some (.ow .fr)) (h : SE K E Γ te me g) : SS K E Γ Γ b c r (tDrop (tBM K "list" rRemI (tVar i) (tCons te tNil))) (gRem i g) := fun F0 H0 ρ σ F H fps N rel q => by
  obtain ⟨v, hv, st, rv⟩ := rel.get hi (fun z => nomatch z)
  refine ⟨v, hv, ?_⟩
  unfold gRem at q
  cases hd : ρ.getD i .non with
  | lst ds =>
    rw [hd] at q rv
    obtain ⟨l, vs, f1, rfl, hl, al, ef⟩ := Rv.ow_lst rv
    refine ⟨.inl ⟨rfl, vs, SqL.of hl⟩, ?_⟩
    refine h.pk F0 H0 ρ σ F H fps _ rel ((RP.bind q).imp (fun d q1 y F1 H1 fp1 x1 rv1 f1 => ?_) fun _ z => z.on rel.x0)
    have rel1 := rel.ext x1
    cases d with
    | int k =>
      cases ha : allInt ds with
      | none => simp only [ha] at q1; exact (show False from q1).elim
      | some ns =>
        cases hj : remIx k ds with
        | none => simp only [ha, hj] at q1; exact (show False from q1).elim
        | some j =>
          simp only [ha, hj] at q1
          have q4 : FP K F0 H0 F Γ b c r N (.nx (ρ.set i (.lst (ds.eraseIdx j)))) := q1
          have ed := allInt_eq ha
          subst ed
          obtain ⟨fz, e1⟩ := al.fr
          subst e1
          have ev : vs = ns.map V.int := BoL.intsOf (H := H) fz.bo
          subst ev
          obtain ⟨r1, r2⟩ := remIx_int hj
          have hl1 := x1.h.at_ hl
          have hlm : l ∈ fps i := by rw [ef]; exact List.mem_cons_self
          refine ⟨l, ns, k, j, rfl, by rw [rv1.1.intOf], hl1, r1, r2, ?_⟩
          refine q4 σ F1 _ (fun j => if j = i then [l] else fps j) x1.f (rel1.mut hi hv st hlm ⟨l, (ns.eraseIdx j).map V.int, [], rfl, upd_same, ?_, rfl⟩ (by simp) (fun a ha => ?_) fun jj a hjj ha hz => ?_)
          · rw [erase_map]
            exact (FzL.ints _).al
          · have e : a = l := by simpa using ha
            subst e
            exact rel1.ow i a hlm
          · have e : a = l := by simpa using hz
            subst e
            exact hjj (rel1.dj jj i a ha hlm)
    | _ => exact (show False from q1).elim
  | _ => rw [hd] at q; exact (show False from q).elim
theorem ds_rem (i : Nat) {x : Str} (U : Uni K E k X) (h : DE K E X Γ e te me g) (hi : Γ[i]? = some (.ow .fr) := by rfl) (hN : X.N[i]? = some x := by rfl) (hv : Vis X.env.scope x := by first | exact Or.inl rfl | exact Or.inr (Or.inl rfl) | exact Or.inr (Or.inr rfl))
    (hd : (x == ("__debug__" : Str)) = false := by decide) (hcd : (x == ("__classdict__" : Str)) = false := by decide)
    (pe : PE X (.Name x p1) (tVar i) → PA X [e] (tCons te tNil) → PE X (.Call (.Attribute (.Name x p1) "remove" p2) [e] [] p3) (tBM X.K "list" rRemI (tVar i) (tCons te tNil)) := by exact fun h1 h2 => pe_bm PySem.F.plainAttrs_list PySem.F.slot_list_remove PySem.F.type_list_remove mt_remove h1 h2)
    (hs : swapsWith (.Call (.Attribute (.Name x p1) "remove" p2) [e] [] p3) none pos.line X.env = pure false := by rfl) (he : starEach [e] X.env = (false, eval e X.env) :: starEach [] X.env := by rfl) :
    DS K E X Γ (.Expr (.Call (.Attribute (.Name x p1) "remove" p2) [e] [] p3) pos) (tDrop (tBM K "list" rRemI (tVar i) (tCons te tNil))) Γ b c r (gRem i g) := by
  have e0 := U.K
  subst e0
  exact ⟨ps_expr (pe (pe_var hN hv hd hcd) (pa_cons h.pe pa_nil he)) hs, ss_rem hi h.se⟩
end
end DL
/-! DLun: a, b, .. = e, e a tuple or a list. -/
namespace DL
open PySem L2
variable [Tbs]
def gtU (r : List D → List D → Option (List D)) : D → List D → Option (List D) := fun d ρ => match d with
  | .tup ds => r ds ρ
  | .lst ds => r ds ρ
  | _ => none
def gUni (K : PySem.W.Frag) (n : Nat) (t : TGs) : TG := fun v σ H Q => gTup K n t v σ H Q ∨ gUnl K n t v σ H Q
section
variable {K : PySem.W.Frag} {E : XK} {X : Cx} {Γ Γ' : List M} {is : List Nat} {es : List Expr} {tgs : TGs} {gr : List D → List D → Option (List D)} {pos : Pos} {k : Nat}
theorem dg_uni {n : Nat} {kk : Nat} (U : Uni K E k X) (h : DGs K X Γ Γ' is es tgs gr) (hlen : ∀ ds ρ, ds.length ≠ n → gr ds ρ = none)
    (hn : (assignEach es X.env).length = n := by rfl) (hst : (assignEach es X.env).findIdx? (·.1) = none := by rfl) : DG K X Γ Γ' .fr is (.Tuple es kk pos) (gUni K n tgs) (gtU gr) := by
  have e0 := U.K
  subst e0
  refine ⟨⟨fun pins s σ H v u Q I r hw => hw.elim ((pg_tup U.calm h.pg hn hst).run pins s σ H v u Q I r) ((pg_unl U.calm h.pg hn hst).run pins s σ H v u Q I r)⟩, fun F0 H0 ρ σ F H fps v d Q rel rv q => ?_⟩
  have len : ∀ ds, RP (oR (gr ds ρ)) (fun ρ' => ∀ σ' fps', Rel X.K F0 H0 Γ' ρ' σ' F H fps' → (∀ j, j ∉ is → σ'[j]? = σ[j]?) → σ'.length = σ.length → Q σ' H) (fun _ => False) → ds.length = n := fun ds q => by
    by_cases e : ds.length = n
    · exact e
    · rw [hlen ds ρ e] at q; exact (show False from q).elim
  cases d with
  | tup ds =>
    have q : RP (oR (gr ds ρ)) _ _ := q
    obtain ⟨a, vs, rfl, h1, h2⟩ := rv.1.tupOf
    exact .inl ⟨a, vs, rfl, Same.sqt rel.fh h1, by rw [h2.length]; exact len ds q, h.sg F0 H0 ρ σ F H fps vs ds Q rel h2 q⟩
  | lst ds =>
    have q : RP (oR (gr ds ρ)) _ _ := q
    obtain ⟨a, vs, rfl, h1, h2⟩ := rv.1.listOf
    exact .inr ⟨a, vs, rfl, rel.fh.seq h1, by rw [h2.length]; exact len ds q, h.sg F0 H0 ρ σ F H fps vs ds Q rel h2 q⟩
  | _ => exact (show False from q).elim
end
/-! ### x[i], x an own list of frozen items: the item is frozen -/
section
variable {K : PySem.W.Frag} {E : XK} {X : Cx} {Γ : List M} {ix : Expr} {ti : TE} {mi : M} {gi : List D → R D} {pos p1 : Pos} {k : Nat}
theorem se_ixO {i : Nat} (hi : Γ[i]? = some (.ow .fr)) (h2 : SE K E Γ ti mi gi) : SE K E Γ (tOp (rIx K) (tVar i) ti) .fr (g2 dIx (gv i) gi) := fun F0 H0 ρ σ F H fps Q rel q => by
  obtain ⟨v, hv, st, rv⟩ := rel.get hi (fun z => nomatch z)
  refine ⟨v, hv, ?_⟩
  have q0 : RP (gi ρ >>= fun dy => dIx (ρ.getD i .non) dy) _ _ := q
  refine h2.pk F0 H0 ρ σ F H fps _ rel ((RP.bind q0).imp (fun dy q1 y F1 H1 fpy x rvy fy => ?_) fun _ z => z)
  have rv1 := rv.grow x.f x.h
  generalize ρ.getD i .non = d at rv1 q1
  cases d with
  | lst ds =>
    cases dy with
    | int k =>
      obtain ⟨d, hd, hq⟩ := oR_ok q1
      obtain rfl := rvy.1.intOf
      obtain ⟨a, vs, fps', rfl, ha, al, e⟩ := Rv.ow_lst rv1
      have fz := (Al.fr al).1
      obtain ⟨j, hj, hx⟩ := atI_len fz.length hd
      obtain ⟨w, hw, hf⟩ := fz.get hj
      exact .inl ⟨a, vs, k, w, rfl, rfl, SqL.of ha, hx w hw, hq w F1 H1 [] x ⟨hf, rfl⟩ Fresh.nil⟩
    | _ => exact (show False from q1).elim
  | tup ds =>
    cases dy with
    | int k =>
      obtain ⟨d, hd, hq⟩ := oR_ok q1
      obtain rfl := rvy.1.intOf
      obtain ⟨a, vs, rfl, h1, fz⟩ := Fz.tupOf (show Fz K F1 v (.tup ds) from rv1.1)
      obtain ⟨j, hj, hx⟩ := atI_len fz.length hd
      obtain ⟨w, hw, hf⟩ := fz.get hj
      exact .inr (.inl ⟨a, vs, k, w, rfl, rfl, Same.sqt x.fh h1, hx w hw, hq w F1 H1 [] x ⟨hf, rfl⟩ Fresh.nil⟩)
    | _ => exact (show False from q1).elim
  | str z =>
    cases dy with
    | int k =>
      obtain ⟨c, q1⟩ := RP.ite (show RP (if _ then _ else _) _ _ from q1)
      obtain ⟨d, hd, hq⟩ := oR_ok q1
      obtain rfl := rvy.1.intOf
      obtain rfl : v = .str z := (Bo.fz (H := H1) (show Fz K F1 v (.str z) from rv1.1)).strOf
      obtain ⟨ch, hc, rfl⟩ := Option.map_eq_some_iff.mp hd
      exact .inr (.inr ⟨z, k, ch, rfl, rfl, c, hc, hq _ F1 H1 [] x ⟨.str _, rfl⟩ Fresh.nil⟩)
    | _ => exact (show False from q1).elim
  | _ => cases dy <;> exact (show False from q1).elim
theorem de_ixO (i : Nat) {x : Str} (U : Uni K E k X) (h2 : DE K E X Γ ix ti mi gi) (hi : Γ[i]? = some (.ow .fr) := by rfl) (hN : X.N[i]? = some x := by rfl) (hv : Vis X.env.scope x := by first | exact Or.inl rfl | exact Or.inr (Or.inl rfl) | exact Or.inr (Or.inr rfl))
    (hd : (x == ("__debug__" : Str)) = false := by decide) (hcd : (x == ("__classdict__" : Str)) = false := by decide) (hpl : PlainIx ix := by exact fun _ _ => rfl) :
    DE K E X Γ (.Subscript (.Name x p1) ix pos) (tOp (rIx K) (tVar i) ti) .fr (g2 dIx (gv i) gi) := by
  have e0 := U.K
  subst e0
  exact ⟨pe_ix ix_seq (pe_var hN hv hd hcd) h2.pe hpl, se_ixO hi h2.se⟩
end
end DL
/-! DLix: x.index(k), x.clear(), x an own list. -/
namespace DL
open PySem L2
variable [Tbs]
def gIdx (i : Nat) (g : List D → R D) : List D → R D := fun ρ => match ρ.getD i .non with
  | .lst ds => g ρ >>= fun d => match d with
    | .int k => (match allInt ds, remIx k ds with
      | some _, some j => .ok (.int (j : Nat))
      | _, _ => .bad)
    | _ => .bad
  | _ => .bad
section
variable {K : PySem.W.Frag} {E : XK} {X : Cx} {Γ b c : List M} {e : Expr} {te : TE} {me r : M} {g : List D → R D} {p1 p2 p3 pos : Pos} {k : Nat}
theorem se_idx {i : Nat} (hi : Γ[i]? = some (.ow .fr)) (h : SE K E Γ te me g) : SE K E Γ (tBM K "list" (rIndex K) (tVar i) (tCons te tNil)) .fr (gIdx i g) := fun F0 H0 ρ σ F H fps Q rel q => by
  obtain ⟨v, hv, st, rv⟩ := rel.get hi (fun z => nomatch z)
  refine ⟨v, hv, ?_⟩
  unfold gIdx at q
  cases hd : ρ.getD i .non with
  | lst ds =>
    rw [hd] at q rv
    obtain ⟨l, vs, f1, rfl, hl, al, ef⟩ := Rv.ow_lst rv
    refine ⟨.inl ⟨rfl, vs, SqL.of hl⟩, ?_⟩
    refine h.pk F0 H0 ρ σ F H fps _ rel ((RP.bind q).imp (fun d q1 y F1 H1 fp1 x1 rv1 f1 => ?_) fun _ z => z)
    cases d with
    | int k =>
      cases ha : allInt ds with
      | none => simp only [ha] at q1; exact (show False from q1).elim
      | some ns =>
        cases hj : remIx k ds with
        | none => simp only [ha, hj] at q1; exact (show False from q1).elim
        | some j =>
          simp only [ha, hj] at q1
          have q4 : VP K H0 F H .fr (.int (j : Nat)) Q := q1
          have ed := allInt_eq ha
          subst ed
          obtain ⟨fz, e1⟩ := al.fr
          subst e1
          have ev : vs = ns.map V.int := BoL.intsOf (H := H) fz.bo
          subst ev
          obtain ⟨r1, r2⟩ := remIx_int hj
          have hl1 := x1.h.at_ hl
          refine ⟨l, ns.map V.int, .int k, j, .int k, rfl, by rw [rv1.1.intOf], SqL.of hl1, rfl, ?_, ?_, ?_, ?_, q4 _ F1 H1 [] x1 ⟨.int _, rfl⟩ Fresh.nil⟩
          · refine List.all_eq_true.mpr fun z hz => ?_
            obtain ⟨n, _, rfl⟩ := List.mem_map.mp hz
            rfl
          · rw [List.getElem?_map, r1]; rfl
          · exact beq_self_eq_true k
          · intro m z' hm hz
            rw [List.getElem?_map] at hz
            obtain ⟨n, hn, rfl⟩ := Option.map_eq_some_iff.mp hz
            exact beq_eq_false_iff_ne.mpr fun w => r2 m hm (by rw [hn, w])
    | _ => exact (show False from q1).elim
  | _ => rw [hd] at q; exact (show False from q).elim
theorem de_idx (i : Nat) {x : Str} (U : Uni K E k X) (h : DE K E X Γ e te me g) (hi : Γ[i]? = some (.ow .fr) := by rfl) (hN : X.N[i]? = some x := by rfl) (hv : Vis X.env.scope x := by first | exact Or.inl rfl | exact Or.inr (Or.inl rfl) | exact Or.inr (Or.inr rfl))
    (hd : (x == ("__debug__" : Str)) = false := by decide) (hcd : (x == ("__classdict__" : Str)) = false := by decide)
    (pe : PE X (.Name x p1) (tVar i) → PA X [e] (tCons te tNil) → PE X (.Call (.Attribute (.Name x p1) "index" p2) [e] [] p3) (tBM X.K "list" (rIndex X.K) (tVar i) (tCons te tNil)) := by exact fun h1 h2 => pe_bm PySem.F.plainAttrs_list PySem.F.slot_list_index PySem.F.type_list_index mt_index h1 h2)
    (he : starEach [e] X.env = (false, eval e X.env) :: starEach [] X.env := by rfl) :
    DE K E X Γ (.Call (.Attribute (.Name x p1) "index" p2) [e] [] p3) (tBM K "list" (rIndex K) (tVar i) (tCons te tNil)) .fr (gIdx i g) := by
  have e0 := U.K
  subst e0
  exact ⟨pe (pe_var hN hv hd hcd) (pa_cons h.pe pa_nil he), se_idx hi h.se⟩
def gClr (i : Nat) : List D → R Fl := fun ρ => match ρ.getD i .non with
  | .lst _ => .ok (.nx (ρ.set i (.lst [])))
  | _ => .bad
theorem ss_clr {i : Nat} (hi : Γ[i]? = some (.ow .fr)) : SS K E Γ Γ b c r (tDrop (tBM0 K "list" rClear (tVar i))) (gClr i) := fun F0 H0 ρ σ F H fps N rel q => by
  obtain ⟨v, hv, st, rv⟩ := rel.get hi (fun z => nomatch z)
  refine ⟨v, hv, ?_⟩
  unfold gClr at q
  cases hd : ρ.getD i .non with
  | lst ds =>
    rw [hd] at q rv
    obtain ⟨l, vs, f1, rfl, hl, al, ef⟩ := Rv.ow_lst rv
    have q4 : FP K F0 H0 F Γ b c r N (.nx (ρ.set i (.lst []))) := q
    refine ⟨.inl ⟨rfl, vs, SqL.of hl⟩, ?_⟩
    have hlm : l ∈ fps i := by rw [ef]; exact List.mem_cons_self
    refine ⟨l, vs, rfl, rfl, hl, ?_⟩
    refine q4 σ F _ (fun j => if j = i then [l] else fps j) (Same.refl F) (rel.mut hi hv st hlm ⟨l, [], [], rfl, upd_same, FzL.nil.al, rfl⟩ (by simp) (fun a ha => ?_) fun jj a hjj ha hz => ?_)
    · have e : a = l := by simpa using ha
      subst e
      exact rel.ow i a hlm
    · have e : a = l := by simpa using hz
      subst e
      exact hjj (rel.dj jj i a ha hlm)
  | _ => rw [hd] at q; exact (show False from q).elim
theorem ds_clr (i : Nat) {x : Str} (U : Uni K E k X) (hi : Γ[i]? = some (.ow .fr) := by rfl) (hN : X.N[i]? = some x := by rfl) (hv : Vis X.env.scope x := by first | exact Or.inl rfl | exact Or.inr (Or.inl rfl) | exact Or.inr (Or.inr rfl))
    (hd : (x == ("__debug__" : Str)) = false := by decide) (hcd : (x == ("__classdict__" : Str)) = false := by decide)
    (pe : PE X (.Name x p1) (tVar i) → PE X (.Call (.Attribute (.Name x p1) "clear" p2) [] [] p3) (tBM0 X.K "list" rClear (tVar i)) := by exact fun h1 => pe_bm0 PySem.F.plainAttrs_list PySem.F.slot_list_clear PySem.F.type_list_clear mt_clear h1)
    (hs : swapsWith (.Call (.Attribute (.Name x p1) "clear" p2) [] [] p3) none pos.line X.env = pure false := by rfl) :
    DS K E X Γ (.Expr (.Call (.Attribute (.Name x p1) "clear" p2) [] [] p3) pos) (tDrop (tBM0 K "list" rClear (tVar i))) Γ b c r (gClr i) := by
  have e0 := U.K
  subst e0
  exact ⟨ps_expr (pe (pe_var hN hv hd hcd)) hs, ss_clr hi⟩
end
end DL
/-! DLat: frozen objects: o.f, isinstance(o, C). -/
namespace DL
open PySem L2
variable [Tbs]
/-- an own class that lets its instances' field f be read -/
def FldC (K : PySem.W.Frag) (f : Str) (cs : List Addr) : Prop := ∀ C ∈ cs, Cls K C ∧ NoAttr K C f
def dFld (f : Str) (cs : List Addr) : D → R D
  | .ob C ns ds => if C ∈ cs then oR ((ns.zip ds).lookup f) else .bad
  | _ => .bad
/-- what isinstance asks of an instance of C about the class C0 -/
structure InsE (K : PySem.W.Frag) (C0 : Addr) (q : Addr × Bool) : Prop where
  cl : Cls K q.1
  ha : PySem.W.findIn K (.ref q.1) "__class__" = some (some (.builtin "object.__class__"))
  hn : PySem.W.specialIn K (.builtin "object.__class__") "__get__" = some (some (.builtin "getset_descriptor.__get__"))
  htk : PySem.W.takesIn K (.builtin "object.__class__") = some true
  hm : PySem.W.mroIn K q.1 (.type "object") = some true
  me : PySem.W.kitOne K (.ref q.1) (.ref C0) = some q.2
omit [Tbs] in
theorem kit_own {K : PySem.W.Frag} {C D : Addr} (h1 : PySem.W.isClsIn K D = true) (h2 : PySem.W.typeIn K (.ref D) = some (.type "type")) (h3 : PySem.W.subIn K (.ref C) (.ref D) = some true) : PySem.W.kitOne K (.ref C) (.ref D) = some true := by
  unfold PySem.W.kitOne
  split
  · rfl
  · unfold PySem.W.kitCls
    have e : ((PySem.W.clsIn K D).isSome && PySem.W.typeIn K (.ref D) == some (.type "type")) = true := by
      rw [h2, Bool.and_eq_true]
      exact ⟨h1, by decide⟩
    exact (if_pos e).trans h3
def InsT (K : PySem.W.Frag) (C0 : Addr) (tab : List (Addr × Bool)) : Prop := ∀ q ∈ tab, InsE K C0 q
def dIsC (tab : List (Addr × Bool)) : D → R D
  | .ob C _ _ => oR ((tab.lookup C).map .bl)
  | _ => .bad
section
variable {K : PySem.W.Frag} {E : XK} {X : Cx} {Γ : List M} {a e : Expr} {ta te : TE} {m : M} {g ga : List D → R D} {p p2 pos : Pos} {k : Nat}
omit [Tbs] in
theorem lookup_fz {F : Hp} {f : Str} : ∀ {fs : List (Str × V)} {ds : List D} {d : D}, FzL K F (fs.map (·.2)) ds → ((fs.map (·.1)).zip ds).lookup f = some d → ∃ v, fs.lookup f = some v ∧ Fz K F v d
  | [], _, _, .nil, h => nomatch h
  | (n, v) :: fs, d0 :: ds, d, .cons h hs, q => by
    rw [List.map_cons, List.zip_cons_cons, List.lookup_cons] at q
    rw [List.lookup_cons]
    cases c : f == n with
    | true =>
      rw [c] at q
      cases q
      exact ⟨v, rfl, h⟩
    | false =>
      rw [c] at q
      exact lookup_fz hs q
omit [Tbs] in
theorem lookup_bo {H F : Hp} {f : Str} : ∀ {fs : List (Str × V)} {ds : List D} {d : D}, BoL K H F (fs.map (·.2)) ds → ((fs.map (·.1)).zip ds).lookup f = some d → ∃ v, fs.lookup f = some v ∧ Bo K H F v d
  | [], _, _, .nil, h => nomatch h
  | (n, v) :: fs, d0 :: ds, d, .cons h hs, q => by
    rw [List.map_cons, List.zip_cons_cons, List.lookup_cons] at q
    rw [List.lookup_cons]
    cases c : f == n with
    | true =>
      rw [c] at q
      cases q
      exact ⟨v, rfl, h⟩
    | false =>
      rw [c] at q
      exact lookup_bo hs q
theorem se_fld {f : Str} {cs : List Addr} (hm : m = .fr ∨ m = .bo ∨ m = .pk) (hc : FldC K f cs) (h : SE K E Γ te m g) : SE K E Γ (tFld K te f) m (g1 (dFld f cs) g) := fun F0 H0 ρ σ F H fps Q r q => by
  refine h F0 H0 ρ σ F H fps _ r ((RP.bind q).imp (fun d hd v F1 H1 fp1 x1 rv f1 => ?_) fun _ z => z)
  cases d with
  | ob C ns ds =>
    have hd : RP (if C ∈ cs then oR ((ns.zip ds).lookup f) else .bad) _ _ := hd
    by_cases c : C ∈ cs
    · rw [if_pos c] at hd
      obtain ⟨d, hl, hq⟩ := oR_ok hd
      have fzc : ∀ w, Fz K F1 v (.ob C ns ds) → (∀ w, Fz K F1 w d → Rv K H0 F1 H1 m w d []) → tFld K (fun _ H Q => Q v H) f w H1 Q := fun σ' fz hr => by
        generalize hdd : D.ob C ns ds = dd at fz
        cases fz with
        | @ob a C2 dx fs ds2 a1 a2 a3 =>
          cases hdd
          obtain ⟨w, hw, fw⟩ := lookup_fz a3 hl
          exact ⟨a, C, dx, fs, w, rfl, x1.fh.at_ a1, (hc C c).1, (hc C c).2, hw, hq w F1 H1 [] x1 (hr w fw) Fresh.nil⟩
        | _ => cases hdd
      rcases hm with e | e | e
      · subst e
        exact fzc σ rv.1 fun w fw => ⟨fw, rfl⟩
      rotate_left
      · subst e
        have b : Bo K H1 F1 v (.ob C ns ds) := rv.1
        generalize hdd : D.ob C ns ds = dd at b
        cases b with
        | fz fz => subst hdd; exact fzc σ fz fun w fw => ⟨.fz fw, rfl⟩
        | @ob a C2 dx fs ds2 a1 a2 a3 =>
          cases hdd
          obtain ⟨w, hw, fw⟩ := lookup_bo a3 hl
          exact ⟨a, C, dx, fs, w, rfl, a1, (hc C c).1, (hc C c).2, hw, hq w F1 H1 [] x1 ⟨fw, rfl⟩ Fresh.nil⟩
        | _ => cases hdd
      · subst e
        have b : Bo K H0 F1 v (.ob C ns ds) := rv.1
        generalize hdd : D.ob C ns ds = dd at b
        cases b with
        | fz fz => subst hdd; exact fzc σ fz fun w fw => ⟨.fz fw, rfl⟩
        | @ob a C2 dx fs ds2 a1 a2 a3 =>
          cases hdd
          obtain ⟨w, hw, fw⟩ := lookup_bo a3 hl
          exact ⟨a, C, dx, fs, w, rfl, (r.h0.trans x1.h).at_ a1, (hc C c).1, (hc C c).2, hw, hq w F1 H1 [] x1 ⟨fw, rfl⟩ Fresh.nil⟩
        | _ => cases hdd
    · rw [if_neg c] at hd; exact (show False from hd).elim
  | _ => exact (show False from hd).elim
/-- o.f -/
theorem de_fld {f : Str} {cs : List Addr} (U : Uni K E k X) (hc : FldC K f cs) (h : DE K E X Γ e te m g) (hm : m = .fr ∨ m = .bo ∨ m = .pk := by first | exact .inl rfl | exact .inr (.inl rfl) | exact .inr (.inr rfl)) (hb : attributeBase e f X.env (eval e X.env) = eval e X.env := by rfl) : DE K E X Γ (.Attribute e f pos) (tFld K te f) m (g1 (dFld f cs) g) := by
  have e0 := U.K
  subst e0
  exact ⟨pe_fld h.pe hb, se_fld hm hc h.se⟩
theorem se_isC {C0 : Addr} {tab : List (Addr × Bool)} (hm : m = .fr ∨ m = .bo) (ht : InsT K C0 tab) (h : SE K E Γ te m g) : SE K E Γ (tCB (rIsi K) (tCons te (tCons (tC (.ref C0)) tNil))) .fr (g1 (dIsC tab) g) := fun F0 H0 ρ σ F H fps Q r q => by
  refine h F0 H0 ρ σ F H fps _ r ((RP.bind q).imp (fun d hd v F1 H1 fp1 x1 rv f1 => ?_) fun _ z => z)
  show rIsi K [v, .ref C0] H1 Q
  cases d with
  | ob C ns ds =>
    obtain ⟨d, hl, hq⟩ := oR_ok (show RP (oR _) _ _ from hd)
    obtain ⟨b, hb, rfl⟩ := Option.map_eq_some_iff.mp hl
    have q := ht (C, b) (lookup_memF hb)
    have fin : (∃ a dx fs, v = .ref a ∧ H1 a = some (.ins C dx fs)) → rIsi K [v, .ref C0] H1 Q := fun ⟨a, dx, fs, e, ha⟩ => by
      subst e
      exact ⟨.ref a, .ref C0, .ref C, .ref C0, b, rfl, .own C0, .base (.ins ha q.cl q.ha q.hn q.htk q.hm), q.me, hq (.bl b) F1 H1 [] x1 ⟨.bl b, rfl⟩ Fresh.nil⟩
    have fzc : Fz K F1 v (.ob C ns ds) → rIsi K [v, .ref C0] H1 Q := fun fz => by
      generalize hdd : D.ob C ns ds = dd at fz
      cases fz with
      | @ob a C2 dx fs ds2 a1 a2 a3 => cases hdd; exact fin ⟨a, dx, fs, rfl, x1.fh.at_ a1⟩
      | _ => cases hdd
    rcases hm with e | e
    · subst e; exact fzc rv.1
    · subst e
      have bb : Bo K H0 F1 v (.ob C ns ds) := rv.1
      generalize hdd : D.ob C ns ds = dd at bb
      cases bb with
      | fz fz => subst hdd; exact fzc fz
      | @ob a C2 dx fs ds2 a1 a2 a3 => cases hdd; exact fin ⟨a, dx, fs, rfl, (r.h0.trans x1.h).at_ a1⟩
      | _ => cases hdd
  | _ => exact (show False from hd).elim
/-- isinstance(o, C), o of one of the table's classes -/
theorem de_isC {C0 : Addr} {tab : List (Addr × Bool)} {x : Str} (U : Uni K E k X) (ht : InsT K C0 tab) (hC : X.mg x = some (.ref C0)) (h : DE K E X Γ a ta m ga) (hm : m = .fr ∨ m = .bo := by first | exact .inl rfl | exact .inr rfl) (hg : Gl X "isinstance" := by rfl) (hg2 : Gl X x := by rfl) (hd : (x == ("__debug__" : Str)) = false := by decide)
    (he : starEach [a, (.Name x p2 : Expr)] X.env = (false, eval a X.env) :: starEach [(.Name x p2 : Expr)] X.env := by rfl) (he2 : starEach [(.Name x p2 : Expr)] X.env = (false, eval (.Name x p2) X.env) :: starEach [] X.env := by rfl) (hpl : (backTo pos (starEach [(.Name x p2 : Expr)] X.env)).any (·.1) = false := by rfl) :
    DE K E X Γ (.Call (.Name "isinstance" p) [a, .Name x p2] [] pos) (tCB (rIsi K) (tCons ta (tCons (tC (.ref C0)) tNil))) .fr (g1 (dIsC tab) ga) := by
  have e0 := U.K
  subst e0
  exact ⟨pe_callB call_isi hg U.bn.isinstance (by decide +kernel) (pa_cons h.pe (pa_cons (pe_glob (v := .ref C0) hg2 hC rfl hd) pa_nil he2) he) (by decide) (by decide) he hpl, se_isC hm ht h.se⟩
end
end DL
/-! DLrp: repr of nested tuples and lists, where nothing is being shown. -/
namespace DL
open PySem L2
variable [Tbs]
theorem pln_noDict : ∀ {d : D}, (toP d).hasDict = false := by
  intro d
  have key : ∀ n (d : D), sizeOf d < n → (toP d).hasDict = false := by
    intro n
    induction n with
    | zero => exact fun d h => absurd h (Nat.not_lt_zero _)
    | succ n ih =>
      have all : ∀ ds : List D, sizeOf ds < n → PyData.hasDictAll (toPs ds) = false := by
        intro ds
        induction ds with
        | nil => intro _; rfl
        | cons x xs ih2 =>
          intro h
          have e : sizeOf (x :: xs) = 1 + sizeOf x + sizeOf xs := rfl
          show ((toP x).hasDict || PyData.hasDictAll (toPs xs)) = false
          rw [ih x (by omega), ih2 (by omega)]
          rfl
      intro d h
      cases d with
      | tup ds =>
        have e : sizeOf (D.tup ds) = 1 + sizeOf ds := by simp
        exact all ds (by omega)
      | lst ds =>
        have e : sizeOf (D.lst ds) = 1 + sizeOf ds := by simp
        exact all ds (by omega)
      | _ => rfl
  exact key _ d (Nat.lt_succ_self _)
def isTL : D → Bool
  | .tup _ => true
  | .lst _ => true
  | _ => false
/-- what repr can be asked of -/
def rpOk (d : D) : Bool := isTL d && pln d && (toP d).showable && decide ((toP d).depth ≤ 40) && (toP d).leavesShort 13 && decide ((toP d).weight ≤ 2 ^ 20)
def dRepr : D → R D := fun d => if rpOk d = true then .ok (.str (toP d).shown) else .bad
def rRepr (K : PySem.W.Frag) : List V → Hp → VK → Prop := fun xs H Q => ∃ (a : Addr) (d : D), xs = [.ref a] ∧ Dp K H (.ref a) (toP d) ∧ rpOk d = true ∧ Q (.str (toP d).shown) H
theorem call_repr_D {X : Cx} (hG : X.A.guards = some []) (hu : X.A.units + 64 < cLine) : CallR X (.builtin "repr") (rRepr X.K) := by
  intro pins s σ H xs us Q I r h
  obtain ⟨a, d, rfl, hd, ok, q⟩ := h
  obtain ⟨u, rfl, hv⟩ := vals1 r
  obtain ⟨rd, hr⟩ := Dp.reads I (toP d) (.ref a) u hd hv
  obtain rfl : u = .ref a := hv
  unfold rpOk at ok
  simp only [Bool.and_eq_true, decide_eq_true_eq] at ok
  obtain ⟨⟨⟨⟨⟨k1, k2⟩, k3⟩, k4⟩, k5⟩, k6⟩ := ok
  refine repr_of_reads' hr k3 (fun z => by rw [pln_noDict] at z; cases z) hG (by omega) (fun _ _ e => e) (fun h' u tk keep => ?_) (PyData.shown_fits (by decide) (by decide) k5 k6)
  exact ⟨.str (toP d).shown, H, I.un (Un.kept keep) (I.hok.kept keep), ⟨u, rfl⟩, q⟩
section
variable {K : PySem.W.Frag} {E : XK} {X : Cx} {Γ : List M} {a : Expr} {ta : TE} {g : List D → R D} {p pos : Pos} {k : Nat}
theorem de_repr (U : Uni K E k X) (hG : X.A.guards = some []) (h : DE K E X Γ a ta .fr g) (hm : X.mg "repr" = none) (hg : Gl X "repr" := by rfl) (he : starEach [a] X.env = (false, eval a X.env) :: starEach [] X.env := by rfl) (hpl : (backTo pos (starEach [] X.env)).any (·.1) = false := by rfl) :
    DE K E X Γ (.Call (.Name "repr" p) [a] [] pos) (tCB (rRepr K) (tCons ta tNil)) .fr (g1 dRepr g) := by
  have e0 := U.K
  subst e0
  refine ⟨pe_callB (call_repr_D hG U.hu) hg hm (by decide +kernel) (pa_cons h.pe pa_nil he) (by decide) (by decide) he hpl, fun F0 H0 ρ σ F H fps Q r q => ?_⟩
  refine h.se F0 H0 ρ σ F H fps _ r ((RP.bind q).imp (fun d hd v F' H' fp x rv f => ?_) fun _ z => z)
  unfold dRepr at hd
  by_cases c : rpOk d = true
  · rw [if_pos c] at hd
    have hz : Fz X.K F' v d := rv.1
    have c' := c
    unfold rpOk at c'
    simp only [Bool.and_eq_true, decide_eq_true_eq] at c'
    obtain ⟨⟨⟨⟨⟨k1, k2⟩, _⟩, _⟩, _⟩, _⟩ := c'
    have hp := Fz.dp x.fh hz k2
    cases d with
    | tup ds =>
      cases hz with
      | tup h1 h2 => exact ⟨_, D.tup ds, rfl, hp, c, VP.old (VP.on (show VP X.K H0 F H .fr _ Q from hd) x) x.fh (.str _)⟩
    | lst ds =>
      cases hz with
      | lst h1 h2 => exact ⟨_, D.lst ds, rfl, hp, c, VP.old (VP.on (show VP X.K H0 F H .fr _ Q from hd) x) x.fh (.str _)⟩
    | _ => cases k1
  · rw [if_neg c] at hd; exact (show False from hd).elim
end
end DL
/-! DLgd: the law's def where it is known that nothing is being shown (the law is called so). -/
namespace DL
open PySem L2 PyProof.Rows
/-- what a def promises where nothing is being shown -/
structure FnG (P : Program) (w : World) (K : PySem.W.Frag) (mg : Str → Option Value) (base : Heap) (C : CXT) (k : Nat) (f : Addr) (fd : FuncData) (ps : List Str) (sp : Sp) : Prop where
  len : ∀ vs H Q E, sp vs H Q E → vs.length = ps.length
  run : ∀ (B : Around), B.guards = some [] → Room k B → ∀ (out : List Env) (s : Shared) (H : Hp) (as : Args) (us : List Value) (vs : List V) (Q : VK) (E : XK), Env0 P w K mg base B out s H → BindsTo s fd as (ps.zip us) → Vals vs us → sp vs H Q E →
    codeAny (model P w) B (.call (.ref f) as) (CR C out P w H s Q E) s
theorem FnG.weak {P : Program} {w : World} {K : PySem.W.Frag} {mg : Str → Option Value} {base : Heap} {C : CXT} {k : Nat} {f : Addr} {fd : FuncData} {ps : List Str} {sp sp' : Sp} (F : FnG P w K mg base C k f fd ps sp) (h : ∀ vs H Q E, sp' vs H Q E → sp vs H Q E) : FnG P w K mg base C k f fd ps sp' :=
  ⟨fun vs H Q E q => F.len vs H Q E (h _ _ _ _ q), fun B hB hr out s H as us vs Q E e b r q => F.run B hB hr out s H as us vs Q E e b r (h _ _ _ _ q)⟩
/-- a def by its body -/
theorem fnG_of {C : CXT} {P : Program} {w : World} {K : PySem.W.Frag} {mg : Str → Option Value} {base : Heap} {k : Nat} {f : Addr} {nm ql : Str} {pms : Arguments} {bd : List Stmt} {sc : Scope} {dV kV dc pm cv cl oc : Value} {an od : Option Addr} {sl : Array (Option Value)} {N ps : List Str} {sp : Sp}
    (lk : K.lookup f = some ⟨oc, od, .func (PySem.W.fnOf nm ql pms bd sc dV kV dc pm an cv cl), sl⟩) (hc : PySem.W.codeIn K cv ql = true) (S : FnScope N ps sc) (len : ∀ vs H Q E, sp vs H Q E → vs.length = ps.length)
    (body : ∀ (B : Around) (out : List Env) (s : Shared) (H : Hp) (vs : List V) (Q : VK) (E : XK), B.guards = some [] → Room k (B.deeper (envOfC ql sc s.heap.objs.size f cv)) → sp vs H Q E →
      ∃ t, PSs (cxOf C P w K mg base N ql sc f cv B out s H E) bd t ∧ t { nx := fun _ H' => Q .non H', rt := Q } (start N vs) H) :
    FnG P w K mg base C (k + 1) f (PySem.W.fnOf nm ql pms bd sc dV kV dc pm an cv cl) ps sp where
  len := len
  run B hB hr out s H as us vs Q E e0 b rv hsp := by
    have inH := e0.mod.kin.keeps fun c o z => (e0.bs c o z).1
    have noL := e0.mod.nolimit.keeps fun c o z => (e0.bs c o z).1
    refine codeAny_call_function hr.depth (inH _ _ lk) rfl S.co S.gen rfl (PySem.W.codeRec_of inH hc) (b _ _ _ _ (wpAny_newFunctionEnv_cells S.kind (fun y hy => ?_) fun env he s1 x => ?_))
    · have hm := (List.of_mem_zip (show (y.1, y.2) ∈ ps.zip us from hy)).1
      exact (S.par y.1 hm).elim (fun q => .inl q) fun q => .inr ⟨q, PySem.W.cellsFrom_some _ _ _ (.inl q)⟩
    · subst he
      obtain ⟨t, pt, ht⟩ := body B out s H vs Q E hB (hr.deeper _) hsp
      have I : Inv (cxOf C P w K mg base N ql sc f cv B out s H E) [] (start N vs) H s1 := inv_start S hr.hd e0 (len _ _ _ _ hsp) rv x
      refine ⟨noL.keeps x.toInCall.keep, codeAny_func (wpAny_mono (pt.run [] s1 (start N vs) H _ I ht) (fun fl s' z => ?_) fun _ _ z => z)⟩
      cases fl with
      | ret u => exact let ⟨v, σ', H', J, r, q⟩ := z; ⟨v, H', J.os, J.bare, J.base, J.hok, r, q⟩
      | next => exact let ⟨σ', H', J, q⟩ := z; ⟨.non, H', J.os, J.bare, J.base, J.hok, rfl, q⟩
      | brk => exact (let ⟨_, _, _, q⟩ := z; q : False).elim
      | cont => exact (let ⟨_, _, _, q⟩ := z; q : False).elim
/-- the law is called where nothing is being shown -/
theorem callG {P : Program} {w : World} {K : PySem.W.Frag} {mg mb : Str → Option Value} {C : CXT} {k : Nat} {fa a : Addr} {fd : FuncData} {x : Str} {sp : Sp} {s : Shared} {vs : List Value} {ns : List Int}
    (KX : K.In s.heap) (hns : s.heap.Ns mainGlobals mg) (hb : s.heap.Ns builtinsNs mb) (hbb : ∀ x : Str, x ≠ "__name__" → mb x = bootBuiltins x) (hlim : s.heap.NoLimit) (hg : s.gens = #[])
    (ha : s.heap.get? a = some { cls := .type "list", data := .seq vs.toArray }) (hi : IntsAre vs ns) (hl : ns.length ≤ sizeLine) (hr : Room k callerA)
    (F : ∀ base : Heap, K.In base → base.Ns mainGlobals mg → FnG P w K mg base C k fa fd [x] sp) (hbd : ∀ (s : Shared) (u : Value), BindsTo s fd ⟨[u], []⟩ [(x, u)])
    (hsp : ∀ H : Hp, Only H → SqL K H a (ns.map V.int) → sp [.ref a] H (fun v _ => v = .bl true) fun _ _ _ => False) (hC : ∀ H e s', C [] H s (fun _ _ _ => False) e s' → False) :
    codeAny (model P w) callerA (.call (.ref fa) ⟨[.ref a], []⟩) (fun r s' => r = .ok (.ret (.bool true)) ∧ OldK s.heap s'.heap ∧ s'.os = s.os ∧ AllBare s'.gens) s := by
  have rv := vals_ints hi
  have ln := hi.length
  -- only the script is tracked, and it not where it is the module's own
  obtain ⟨H, h1, h2⟩ : ∃ H : Hp, (∀ b u, H b = some u → b = a ∧ K.lookup a = none ∧ u = .frz { cls := .type "list", data := .seq vs.toArray } (.lst (ns.map V.int))) ∧ (K.lookup a = none → H a = some (.frz { cls := .type "list", data := .seq vs.toArray } (.lst (ns.map V.int)))) := by
    cases q : K.lookup a with
    | some o => exact ⟨fun _ => none, ⟨fun _ u z => absurd (show (none : Option HO) = some u from z) (fun y => nomatch y), fun z => absurd z (fun y => nomatch y)⟩⟩
    | none =>
      refine ⟨fun b => if b = a then some (.frz { cls := .type "list", data := .seq vs.toArray } (.lst (ns.map V.int))) else none, ⟨fun b u z => ?_, fun _ => if_pos rfl⟩⟩
      have z : (if b = a then some (HO.frz { cls := .type "list", data := .seq vs.toArray } (.lst (ns.map V.int))) else none) = some u := z
      by_cases e : b = a
      · rw [if_pos e] at z; exact ⟨e, rfl, (Option.some.inj z).symm⟩
      · rw [if_neg e] at z; exact absurd z (fun y => nomatch y)
  have un : ∀ b, b ≠ a → H b = none := fun b hb => by
    cases q : H b with
    | none => rfl
    | some u => exact absurd (h1 b u q).1 hb
  have only : Only H := fun b => by
    cases q : H b with
    | none => exact .inl rfl
    | some u => exact .inr ⟨_, _, congrArg some (h1 b u q).2.2⟩
  have sq : SqL K H a (ns.map V.int) := by
    cases q : K.lookup a with
    | none => exact .inl (.inr ⟨_, h2 q⟩)
    | some o =>
      have e := (KX a o q).symm.trans ha
      cases e
      exact .inr ⟨_, vs.toArray, _, q, rfl, rfl, rfl, by rw [List.size_toArray, ln]; exact hl, by simpa using rv⟩
  have hok : HOk P w H s.heap := fun b u z => by
    obtain ⟨rfl, _, rfl⟩ := h1 b u z
    exact ⟨ha, by rw [List.length_map]; exact hl, vs, _, rv, ha⟩
  have stay : ∀ {b : Addr} {o : Obj}, s.heap.get? b = some o → (b = a → K.lookup a = none → False) → (hidT s.heap H).get? b = some o := fun {b o} e n => hidT_get e (by
    cases q : H b with
    | none => rfl
    | some u => obtain ⟨e1, e2, _⟩ := h1 b u q; exact (n e1 e2).elim)
  have dicts : ∀ {b : Addr} {m : Str → Option Value}, s.heap.Ns b m → (hidT s.heap H).Ns b m := fun {b m} ⟨o, es, ep, e, d, r⟩ => by
    refine ⟨o, es, ep, stay e fun z _ => ?_, d, r⟩
    subst z
    rw [ha] at e
    cases e
    exact absurd (show Data.seq vs.toArray _ = Data.dict es ep from d) (fun y => nomatch y)
  have inB : K.In (hidT s.heap H) := fun b o e => stay (KX b o e) fun z y => by
    subst z
    rw [y] at e
    cases e
  have m0 : Mod K mg (hidT s.heap H) := ⟨inB, dicts hns, ⟨mb, dicts hb, hbb⟩, hlim.elim fun mc z => ⟨mc, dicts z.1, z.2⟩⟩
  have e0 : Env0 P w K mg (hidT s.heap H) callerA [] s H := { frames := rfl, mod := m0, bs := fun b o e => of_hidT e, bsz := Nat.le_of_eq (hidT_size _ _), funs := trivial, frf := fun b hb => (nomatch (show b ∈ ([] : List Addr) from hb)), hok := hok, bare := .of_eq hg }
  refine codeAny_mono ((F _ inB (dicts hns)).run callerA rfl hr [] s H ⟨[.ref a], []⟩ [.ref a] [.ref a] _ _ e0 (hbd s (.ref a)) (.cons rfl .nil) (hsp H only sq)) fun r s' z => ?_
  cases r with
  | error e => exact (hC H e s' z).elim
  | ok fl =>
    cases fl with
    | ret u =>
      obtain ⟨v, H', os, br, uu, hk', r', (q : v = .bl true)⟩ := z
      subst q
      refine ⟨by rw [show u = Value.bool true from r'], OldK.of_keep fun b o e => ?_, os, br⟩
      cases q : H b with
      | none => exact uu.keep b o e q (fun z => nomatch (show b ∈ ([] : List Addr) from z)) fun z => nomatch z
      | some w =>
        obtain ⟨rfl, y, rfl⟩ := h1 b w q
        obtain ⟨g1, _⟩ := hk' b _ (uu.frzs b _ _ q)
        rw [ha] at e
        cases e
        exact g1
    | next => exact (show False from z).elim
    | brk => exact (show False from z).elim
    | cont => exact (show False from z).elim
theorem walk_lawG {l : PySem.W.OpenLaw} {k : Nat} {q : Program} {loose : List Str} {XP : (Str → Option Value) → Heap → Prop} {YP : World → Heap → Prop} {d : DefRec} {K : Params → PySem.W.Frag} {x : Str}
    (hn : l.most = some 63) (hdf : d.params.defaults = []) (hr : Room k callerA) (hY : ∀ (w : World) (h : Heap), YP w h → (K w.params).In h)
    (F : ∀ (w : World) (mg : Str → Option Value) (fa : Addr) (h : Heap), (K w.params).In h → h.Ns mainGlobals mg → mg d.name = some (.ref fa) →
      ∃ fd : FuncData, (∀ (s : Shared) (u : Value), BindsTo s fd ⟨[u], []⟩ [(x, u)]) ∧
        ∀ base : Heap, (K w.params).In base → base.Ns mainGlobals mg → FnG l.prog w (K w.params) mg base (L2.CX l.prog w) k fa fd [x] (@spT noTbs (K w.params))) :
    PySem.W.WalkO q loose XP YP l.row.toRowW d [] (fun f vs => PySem.call f vs) := Att.attach_callB hn hdf fun w s₀ s₁ mg mb fa o pm cd doc a vs ns G Y ho hd hcd hmg hobj hints hlen hbits hg => by
  obtain ⟨fd, hb, hF⟩ := F w mg fa _ (hY w _ Y) G.T.g hmg
  exact callG (hY w _ Y) G.T.g G.T.b G.T.builtins G.T.nolimit hg hobj hints (Nat.le_trans hlen (by decide)) hr hF hb (fun H hO hS => ⟨a, ns, rfl, hS, hlen, hbits, (fun _ hp => nomatch hp), fun _ => rfl⟩) fun H e s' h => by
    obtain ⟨_, _, _, _, _, _, _, _, _, _, _, _, z⟩ := h
    exact z
variable [Tbs]
/-- the law's def by its body -/
theorem fn_bodyG {P : Program} {w : World} {K : PySem.W.Frag} {mg : Str → Option Value} {base : Heap} {x qual : Str} {st : Stmt} {a : Addr} {fd : FuncData} {N ps : List Str} {k : Nat} {ms : List M} {mr : M} {n b c : List M} {f : List D → R D} (g : List D → R Fl)
    (hf : f = runF N.length g) (B : Bn mg) (F : Fun K x qual st a fd) (S : FnScope N ps (defScope st)) (hl : ms.length = ps.length) (hr : mr.fz = true)
    (body : ∀ (cdv : Value) (A : Around) (outer : List Env) (s : Shared) (H : Hp) (E : XK), Uni K E k (cxOf (L2.CX P w) P w K mg base N qual (defScope st) a cdv A outer s H E) → (cxOf (L2.CX P w) P w K mg base N qual (defScope st) a cdv A outer s H E).A.guards = some [] →
      ∃ t, DSs K E (cxOf (L2.CX P w) P w K mg base N qual (defScope st) a cdv A outer s H E) (startG N.length ms) (defBody st) t n b c mr g) :
    FnG P w K mg base (L2.CX P w) (k + 1) a fd ps (spD K ms mr f) := by
  subst hf
  obtain ⟨oc, od, kV, doc, pm, an, cdv, ct, osl, rfl, lk, hcd⟩ := F.ex
  refine fnG_of lk hcd S (fun vs H Q E ⟨F, ds, _, _, h, _⟩ => by rw [h.lens.1, hl]) fun A outer s H vs Q E hG hr1 ⟨F, ds, eF, tb, h, q⟩ => ?_
  have tk := takes_of (X := cxOf (L2.CX P w) P w K mg base N qual (defScope st) a cdv A outer s H E) (E := E) rfl rfl rfl rfl
  have U : Uni K E k (cxOf (L2.CX P w) P w K mg base N qual (defScope st) a cdv A outer s H E) := ⟨rfl, S.nd, rfl, hr1, hr1.units, passes_of rfl, passes_call tk fun _ _ _ _ h => h, tk, B⟩
  obtain ⟨t, hb⟩ := body cdv A outer s H E U hG
  refine ⟨t, hb.ps, hb.ss F H _ _ F H _ _ (Rel.start eF tb h ?_) ((RP.bind q).imp (fun fl hf => ?_) fun _ z => z)⟩
  · have e := congrArg List.length S.pre
    rw [List.length_take] at e
    omega
  · cases fl with
    | nx ρ =>
      intro σ' F' H' fps' s rel
      refine (show VP K H F H mr .non Q from hf) .non F' H' [] rel.x0 ?_ Fresh.nil
      cases mr with
      | fr => exact ⟨.non, rfl⟩
      | ow m => exact ⟨.non, rfl⟩
      | _ => cases hr
    | rt d => exact fun v F' H' fp x rv f => hf v F' H' fp x (rv.to hr) f
    | bk _ => exact (show False from hf).elim
    | ct _ => exact (show False from hf).elim
end DL
/-! DLsg: texts of numbers, texts joined, f-strings. -/
namespace DL
open PySem L2
variable [Tbs]
def dStrI : List D → R D
  | [.int i] => if i.natAbs.log2 < 1920 then .ok (.str (toString i)) else .bad
  | _ => .bad
def tsD : List D → Option (List Str)
  | [] => some []
  | .str y :: ds => (tsD ds).map (y :: ·)
  | _ :: _ => none
omit [Tbs] in
theorem tsD_map : ∀ ys : List Str, tsD (ys.map D.str) = some ys
  | [] => rfl
  | y :: ys => by show (tsD (ys.map D.str)).map (y :: ·) = _; rw [tsD_map ys]; rfl
omit [Tbs] in
theorem tsD_eq : ∀ {ds : List D} {ys : List Str}, tsD ds = some ys → ds = ys.map D.str
  | [], ys, h => by cases h; rfl
  | .str y :: ds, ys, h => by
    obtain ⟨zs, h1, rfl⟩ := Option.map_eq_some_iff.mp (show (tsD ds).map (y :: ·) = some ys from h)
    rw [tsD_eq h1]; rfl
  | .non :: _, _, h => nomatch h
  | .bl _ :: _, _, h => nomatch h
  | .int _ :: _, _, h => nomatch h
  | .tup _ :: _, _, h => nomatch h
  | .lst _ :: _, _, h => nomatch h
  | .cl _ :: _, _, h => nomatch h
  | .ex _ _ :: _, _, h => nomatch h
  | .ob _ _ _ :: _, _, h => nomatch h
def dJoin : D → D → R D
  | .str a, .lst ds => match tsD ds with
    | some ys => if (ys.map (·.length)).sum + ys.length * a.length ≤ 16777216 then .ok (.str (Txt.join a ys)) else .bad
    | none => .bad
  | _, _ => .bad
def gJn (go ga : List D → R D) : List D → R D := fun ρ => go ρ >>= fun d => match d with
  | .str z => ga ρ >>= fun e => dJoin (.str z) e
  | _ => .bad
def dFmt : D → R D
  | .str y => if y.length ≤ sizeLine then .ok (.str y) else .bad
  | .int i => if i.natAbs.log2 < 1920 then .ok (.str (toString i)) else .bad
  | _ => .bad
def gJs : List (List D → R D) → Str → List D → R Str
  | [], acc, _ => .ok acc
  | g :: gs, acc, ρ => g ρ >>= fun d => match d with
    | .str y => if (acc ++ y).length ≤ sizeLine then gJs gs (acc ++ y) ρ else .bad
    | _ => .bad
def gJoined (gs : List (List D → R D)) : List D → R D := fun ρ => gJs gs Str.empty ρ >>= fun s => .ok (.str s)
section
variable {K : PySem.W.Frag} {H F : Hp}
omit [Tbs] in
theorem BoL.textsOf : ∀ {ys : List Str} {vs : List V}, BoL K H F vs (ys.map D.str) → vs = ys.map V.str
  | [], _, .nil => rfl
  | y :: ys, _, .cons h hs => by rw [h.strOf, BoL.textsOf hs]; rfl
theorem sc_strI : SC K (fun xs H Q => ∃ i : Int, xs = [.int i] ∧ i.natAbs.log2 < 1920 ∧ Q (.str (toString i)) H) [.pk] .fr dStrI := by
  intro H0 F H vs ds Q eF e0 rvs q
  obtain ⟨v, d, rfl, rfl, rv⟩ := rvs.one
  cases d with
  | int i =>
    obtain ⟨c, q1⟩ := RP.ite (show RP (if i.natAbs.log2 < 1920 then _ else R.bad) _ _ from q)
    obtain rfl := rv.1.intOf
    exact ⟨i, rfl, c, VP.old q1 eF (.str _)⟩
  | _ => exact (show False from q).elim
end
section
variable {K : PySem.W.Frag} {E : XK} {X : Cx} {Γ : List M} {a o e v1 v2 : Expr} {es rest : List Expr} {ta to te t : TE} {ts : List TE} {m m2 : M} {g go ga : List D → R D} {gs : List (List D → R D)} {p apos pos : Pos} {k : Nat}
/-- str(e), e a number -/
theorem de_strI (U : Uni K E k X) (h : DE K E X Γ a ta m ga) (hm : X.mg "str" = none) (hg : Gl X "str" := by rfl) (he : starEach [a] X.env = (false, eval a X.env) :: starEach [] X.env := by rfl) : DE K E X Γ (.Call (.Name "str" p) [a] [] pos) (tCB (fun xs H Q => ∃ i : Int, xs = [.int i] ∧ i.natAbs.log2 < 1920 ∧ Q (.str (toString i)) H) (tCons ta tNil)) .fr (gAll dStrI (gsC ga gsN)) :=
  DE.callTy call_str_int sc_strI hm (by decide +kernel) (da_p h da_nil he) hg (by decide) (by decide) he rfl
/-- o.join(e), e a list of texts -/
theorem de_join (U : Uni K E k X) (ho : DE K E X Γ o to m go) (he : DE K E X Γ e te m2 ga) (hs : starEach [e] X.env = [(false, eval e X.env)] := by rfl) (hbase : attributeBase o "join" X.env (eval o X.env) = eval o X.env := by rfl) (hline : (apos.endLine == pos.line) = true := by rfl) :
    DE K E X Γ (.Call (.Attribute o "join" apos) [e] [] pos) (tM1 (fun x xs H Q => ∃ a p, ∃ ys : List Str, x = .str a ∧ xs = [.ref p] ∧ (SqL K H p (ys.map V.str) ∨ SqT K H p (ys.map V.str)) ∧ (ys.map (·.length)).sum + ys.length * a.length ≤ 16777216 ∧ Q (.str (Txt.join a ys)) H) to te) .fr (gJn go ga) := by
  have e0 := U.K
  subst e0
  refine ⟨pe_join ho.pe he.pe hs hbase hline, fun F0 H0 ρ σ F H fps Q r q => ?_⟩
  refine ho.se.pk F0 H0 ρ σ F H fps _ r ((RP.bind q).imp (fun d q1 v F1 H1 fp x rv f => ?_) fun _ z => z)
  cases d with
  | str z =>
    refine ⟨⟨z, rv.1.strOf⟩, ?_⟩
    refine he.se.pk F0 H0 ρ σ F1 H1 fps _ (r.ext x) ((RP.bind (show RP (ga ρ >>= fun e => dJoin (.str z) e) _ _ from q1)).imp (fun d2 q2 w F2 H2 fp2 x2 rv2 f2 => ?_) fun _ z => z.on x)
    cases d2 with
    | lst ds =>
      have q2 : RP (match tsD ds with
        | some ys => if (ys.map (·.length)).sum + ys.length * z.length ≤ 16777216 then R.ok (D.str (Txt.join z ys)) else .bad
        | none => .bad) (fun d => VP X.K H0 F H .fr d Q) _ := q2
      cases hs : tsD ds with
      | none => rw [hs] at q2; exact (show False from q2).elim
      | some ys =>
        rw [hs] at q2
        obtain ⟨c, q3⟩ := RP.ite q2
        obtain rfl := tsD_eq hs
        obtain ⟨l, vs, rfl, h1, h2⟩ := rv2.1.listOf x2.fh
        obtain rfl := h2.textsOf
        exact ⟨z, l, ys, rv.1.strOf, rfl, .inl h1, c, VP.old (VP.on (show VP X.K H0 F H .fr _ Q from q3) (x.trans x2)) x2.fh (.str _)⟩
    | _ => exact (show False from q2).elim
  | _ => exact (show False from q1).elim
/-- {e}, a part of an f-string -/
theorem de_fmt (h : DE K E X Γ e te m g) : DE K E X Γ (.FormattedValue e (-1) none pos) (tFmt te) .fr (g1 dFmt g) := ⟨pe_fmt h.pe, fun F0 H0 ρ σ F H fps Q r q => by
  refine h.se.pk F0 H0 ρ σ F H fps _ r ((RP.bind q).imp (fun d q1 v F1 H1 fp x rv f => ?_) fun _ z => z)
  cases d with
  | str y =>
    obtain ⟨c, q2⟩ := RP.ite (show RP (if y.length ≤ sizeLine then _ else R.bad) _ _ from q1)
    exact .inl ⟨y, rv.1.strOf, c, VP.old (VP.on (show VP K H0 F H .fr _ Q from q2) x) x.fh (.str _)⟩
  | int i =>
    obtain ⟨c, q2⟩ := RP.ite (show RP (if i.natAbs.log2 < 1920 then _ else R.bad) _ _ from q1)
    exact .inr ⟨i, rv.1.intOf, c, VP.old (VP.on (show VP K H0 F H .fr _ Q from q2) x) x.fh (.str _)⟩
  | _ => exact (show False from q1).elim⟩
/-- the parts of an f-string -/
structure DJ (K : PySem.W.Frag) (E : XK) (X : Cx) (Γ : List M) (es : List Expr) (ts : List TE) (gs : List (List D → R D)) : Prop where
  pj : PJ X es ts
  sj : ∀ F0 H0 ρ σ F H fps acc (Q : Str → Hp → Prop), Rel K F0 H0 Γ ρ σ F H fps → RP (gJs gs acc ρ) (fun out => ∀ F' H', Ext F H F' H' → Q out H') (XP K E F H) → tJs ts acc σ H Q
theorem dj_nil : DJ K E X Γ [] [] [] := ⟨.nil, fun F0 H0 ρ σ F H fps acc Q r q => q F H (Ext.refl r.fh)⟩
theorem dj_cons (h : DE K E X Γ e t m g) (hr : DJ K E X Γ es ts gs) : DJ K E X Γ (e :: es) (t :: ts) (g :: gs) := ⟨.cons h.pe hr.pj, fun F0 H0 ρ σ F H fps acc Q r q => by
  refine h.se.pk F0 H0 ρ σ F H fps _ r ((RP.bind q).imp (fun d q1 v F1 H1 fp x rv f => ?_) fun _ z => z)
  cases d with
  | str y =>
    obtain ⟨c, q2⟩ := RP.ite (show RP (if (acc ++ y).length ≤ sizeLine then gJs gs (acc ++ y) ρ else R.bad) _ _ from q1)
    exact ⟨y, rv.1.strOf, c, hr.sj F0 H0 ρ σ F1 H1 fps (acc ++ y) Q (r.ext x) (q2.imp (fun out z F' H' x2 => z F' H' (x.trans x2)) fun _ z => z.on x)⟩
  | _ => exact (show False from q1).elim⟩
theorem de_joined (h : DJ K E X Γ (v1 :: v2 :: rest) ts gs) : DE K E X Γ (.JoinedStr (v1 :: v2 :: rest) pos) (fun σ H Q => tJs ts Str.empty σ H fun out H1 => Q (.str out) H1) .fr (gJoined gs) := ⟨pe_joined h.pj, fun F0 H0 ρ σ F H fps Q r q => by
  refine h.sj F0 H0 ρ σ F H fps Str.empty _ r ((RP.bind q).imp (fun out q1 F' H' x => ?_) fun _ z => z)
  exact VP.old (VP.on (show VP K H0 F H .fr (.str out) Q from q1) x) x.fh (.str _)⟩
end
end DL
/-! DLtx: texts: lower, upper, find, startswith, strip(signs), split(sep), partition(sep); a sign in a text; text * n; int(text). -/
namespace L2
open PySem PySem.Spec PyProof.Rows
/-- a text times an int -/
def rSMul : R2 := fun x y H Q => ∃ (a : Str) (n : Int), x = .str a ∧ y = .int n ∧ -(2 ^ 63) ≤ n ∧ n < 2 ^ 63 ∧ a.length * n.toNat ≤ 16777216 ∧ Q (.str (Txt.mul a n)) H
theorem mulOk_of {a : Str} {n : Int} (h1 : -(2 ^ 63) ≤ n) (h2 : n < 2 ^ 63) (h : a.length * n.toNat ≤ 16777216) : MulOk a n := by
  refine ⟨by simp only [Bool.or_eq_false_iff, decide_eq_false_iff_not]; omega, fun c _ z => ?_, fun c _ => ?_⟩
  · have e : ((a.length * n.toNat : Nat) : Int) = (a.length : Int) * n := by rw [Int.natCast_mul, Int.toNat_of_nonneg (by omega)]
    have e2 : (a.length : Int) * n ≤ 2 ^ 63 - 1 := by omega
    have e3 : (a.length : Int) ≤ (2 ^ 63 - 1) / n := (Int.le_ediv_iff_mul_le (by omega)).mpr e2
    omega
  · unfold PySem.Builtin.Str.tooLong sizeLine
    exact decide_eq_false (by omega)
theorem op_smul {X : Cx} : OpR X (binaryOp .Mult) rSMul := by
  intro pins s σ H x y v u Q I rx ry h
  obtain ⟨a, n, rfl, rfl, h1, h2, h3, q⟩ := h
  obtain ⟨t, rfl⟩ := rx
  obtain ⟨t', rfl⟩ := ry
  exact PySem.SB.mul (mulOk_of h1 h2 h3) fun t2 k => ⟨.str _, H, I.tok k, ⟨t2, rfl⟩, q⟩
end L2
namespace DL
open PySem L2
variable [Tbs]
def dT0 (n : Nat) (f : Str → Str) : D → R D
  | .str a => if a.length ≤ n then .ok (.str (f a)) else .bad
  | _ => .bad
def gT2 (f : Str → D → R D) (go ga : List D → R D) : List D → R D := fun ρ => go ρ >>= fun d => match d with
  | .str z => ga ρ >>= fun e => f z e
  | _ => .bad
def dFind (a : Str) : D → R D
  | .str b => .ok (.int (Txt.find a b))
  | _ => .bad
def dStw (a : Str) : D → R D
  | .str b => .ok (.bl (Txt.startswith a b))
  | _ => .bad
def dStrip (a : Str) : D → R D
  | .str b => if a.length ≤ sizeLine then .ok (.str (Txt.stripChars a b)) else .bad
  | _ => .bad
def dSplit (a : Str) : D → R D
  | .str b => if (b.length == 0) = false ∧ a.length + 2 ≤ sizeLine then .ok (.lst ((Txt.split a b).map .str)) else .bad
  | _ => .bad
def dPart (a : Str) : D → R D
  | .str b => if (b.length == 0) = false ∧ a.length ≤ sizeLine then .ok (.tup [.str (Txt.partition a b).1, .str (Txt.partition a b).2.1, .str (Txt.partition a b).2.2]) else .bad
  | _ => .bad
def dInS (neg : Bool) : D → D → R D
  | .str x, .str z => match x.cps.toList with
    | [c] => .ok (.bl (decide (c ∈ z.cps.toList) ^^ neg))
    | _ => .bad
  | _, _ => .bad
def dSMul : D → D → R D
  | .str a, .int n => if -(2 ^ 63) ≤ n ∧ n < 2 ^ 63 ∧ a.length * n.toNat ≤ 16777216 then .ok (.str (Txt.mul a n)) else .bad
  | _, _ => .bad
def dIntT : List D → R D
  | [.str a] => if a.length ≤ 640 then oR ((PySem.intText? a).map .int) else .bad
  | _ => .bad
section
variable {K : PySem.W.Frag} {E : XK} {X : Cx} {Γ : List M} {a o e b : Expr} {ta to te tb : TE} {m m2 ma mb : M} {g go ga gb : List D → R D} {p apos pos : Pos} {k : Nat} {r : V → List V → Hp → VK → Prop}
theorem se_t0 {n : Nat} {f : Str → Str} (hr : ∀ x H Q, (∃ a, x = .str a ∧ a.length ≤ n ∧ Q (.str (f a)) H) → r x [] H Q) (ho : SE K E Γ to m go) : SE K E Γ (tM0 r to) .fr (g1 (dT0 n f) go) := fun F0 H0 ρ σ F H fps Q rel q => by
  refine ho.pk F0 H0 ρ σ F H fps _ rel ((RP.bind q).imp (fun d q1 v F1 H1 fp x rv f1 => ?_) fun _ z => z)
  cases d with
  | str a =>
    obtain ⟨c, q2⟩ := RP.ite (show RP (if a.length ≤ n then R.ok (D.str (f a)) else R.bad) _ _ from q1)
    exact ⟨⟨a, rv.1.strOf⟩, hr _ _ _ ⟨a, rv.1.strOf, c, VP.old (VP.on (show VP K H0 F H .fr _ Q from q2) x) x.fh (.str _)⟩⟩
  | _ => exact (show False from q1).elim
/-- o.lower() -/
theorem de_lower (ho : DE K E X Γ o to m go) (hbase : attributeBase o "lower" X.env (eval o X.env) = eval o X.env := by rfl) (hline : (apos.endLine == pos.line) = true := by rfl) : DE K E X Γ (.Call (.Attribute o "lower" apos) [] [] pos) (tM0 (fun x xs H Q => ∃ a, x = .str a ∧ xs = [] ∧ a.length ≤ 5592405 ∧ Q (.str (Txt.lower a)) H) to) .fr (g1 (dT0 5592405 Txt.lower) go) :=
  ⟨pe_lower ho.pe hbase hline, se_t0 (fun x H Q ⟨a, h1, h2, h3⟩ => ⟨a, h1, rfl, h2, h3⟩) ho.se⟩
/-- o.upper() -/
theorem de_upper (ho : DE K E X Γ o to m go) (hbase : attributeBase o "upper" X.env (eval o X.env) = eval o X.env := by rfl) (hline : (apos.endLine == pos.line) = true := by rfl) : DE K E X Γ (.Call (.Attribute o "upper" apos) [] [] pos) (tM0 (fun x xs H Q => ∃ a, x = .str a ∧ xs = [] ∧ a.length ≤ 5592405 ∧ Q (.str (Txt.upper a)) H) to) .fr (g1 (dT0 5592405 Txt.upper) go) :=
  ⟨pe_upper ho.pe hbase hline, se_t0 (fun x H Q ⟨a, h1, h2, h3⟩ => ⟨a, h1, rfl, h2, h3⟩) ho.se⟩
theorem se_t1 {mr : M} {f : Str → D → R D} (hr : ∀ H0 F H a y d Q, Same F H → Same H0 H → Bo K H F y d → RP (f a d) (fun d => VP K H0 F H mr d Q) (fun _ => False) → r (.str a) [y] H Q) (hx : ∀ a d x, f a d ≠ .exc x)
    (ho : SE K E Γ to m go) (he : SE K E Γ te m2 ga) : SE K E Γ (tM1 r to te) mr (gT2 f go ga) := fun F0 H0 ρ σ F H fps Q rel q => by
  refine ho.pk F0 H0 ρ σ F H fps _ rel ((RP.bind q).imp (fun d q1 v F1 H1 fp x rv f1 => ?_) fun _ z => z)
  cases d with
  | str z =>
    have ev := rv.1.strOf
    subst ev
    refine ⟨⟨z, rfl⟩, ?_⟩
    refine he.pk F0 H0 ρ σ F1 H1 fps _ (rel.ext x) ((RP.bind (show RP (ga ρ >>= fun e => f z e) _ _ from q1)).imp (fun d2 q2 w F2 H2 fp2 x2 rv2 f2 => ?_) fun _ z => z.on x)
    refine hr H0 F2 H2 z w d2 Q x2.fh (rel.h0.trans (x.h.trans x2.h)) rv2.1 ?_
    cases hf : f z d2 with
    | ok d3 => rw [hf] at q2; exact VP.on (show VP K H0 F H mr d3 Q from q2) (x.trans x2)
    | exc y => exact absurd hf (hx _ _ _)
    | bad => rw [hf] at q2; exact q2
  | _ => exact (show False from q1).elim
/-- o.find(e) -/
theorem de_find (ho : DE K E X Γ o to m go) (he : DE K E X Γ e te m2 ga) (hs : starEach [e] X.env = [(false, eval e X.env)] := by rfl) (hbase : attributeBase o "find" X.env (eval o X.env) = eval o X.env := by rfl) (hline : (apos.endLine == pos.line) = true := by rfl) :
    DE K E X Γ (.Call (.Attribute o "find" apos) [e] [] pos) (tM1 (fun x xs H Q => ∃ a b, x = .str a ∧ xs = [.str b] ∧ Q (.int (Txt.find a b)) H) to te) .fr (gT2 dFind go ga) :=
  ⟨pe_m1 PySem.F.slot_str_find PySem.F.type_str_find mt_find ho.pe he.pe hs hbase hline, se_t1 (fun H0 F H a y d Q e0 e1 b q => by
    cases d with
    | str z => rw [b.strOf]; exact ⟨a, z, rfl, rfl, VP.old (show VP K H0 F H .fr _ Q from q) e0 (.int _)⟩
    | _ => exact (show False from q).elim) (fun a d x h => by cases d <;> cases h) ho.se he.se⟩
/-- o.startswith(e) -/
theorem de_stw (ho : DE K E X Γ o to m go) (he : DE K E X Γ e te m2 ga) (hs : starEach [e] X.env = [(false, eval e X.env)] := by rfl) (hbase : attributeBase o "startswith" X.env (eval o X.env) = eval o X.env := by rfl) (hline : (apos.endLine == pos.line) = true := by rfl) :
    DE K E X Γ (.Call (.Attribute o "startswith" apos) [e] [] pos) (tM1 (fun x xs H Q => ∃ a b, x = .str a ∧ xs = [.str b] ∧ Q (.bl (Txt.startswith a b)) H) to te) .fr (gT2 dStw go ga) :=
  ⟨pe_m1 PySem.F.slot_str_startswith PySem.F.type_str_startswith mt_startswith ho.pe he.pe hs hbase hline, se_t1 (fun H0 F H a y d Q e0 e1 b q => by
    cases d with
    | str z => rw [b.strOf]; exact ⟨a, z, rfl, rfl, VP.old (show VP K H0 F H .fr _ Q from q) e0 (.bl _)⟩
    | _ => exact (show False from q).elim) (fun a d x h => by cases d <;> cases h) ho.se he.se⟩
omit [Tbs] in
theorem ite_exc {α : Type} {c : Prop} [Decidable c] {a : α} {x : Ex} (h : (if c then R.ok a else R.bad) = .exc x) : False := by
  split at h <;> cases h
/-- o.strip(e) -/
theorem de_stripC (ho : DE K E X Γ o to m go) (he : DE K E X Γ e te m2 ga) (hs : starEach [e] X.env = [(false, eval e X.env)] := by rfl) (hbase : attributeBase o "strip" X.env (eval o X.env) = eval o X.env := by rfl) (hline : (apos.endLine == pos.line) = true := by rfl) :
    DE K E X Γ (.Call (.Attribute o "strip" apos) [e] [] pos) (tM1 (fun x xs H Q => ∃ a b, x = .str a ∧ xs = [.str b] ∧ a.length ≤ sizeLine ∧ Q (.str (Txt.stripChars a b)) H) to te) .fr (gT2 dStrip go ga) :=
  ⟨pe_m1 PySem.F.slot_str_strip PySem.F.type_str_strip mt_stripChars ho.pe he.pe hs hbase hline, se_t1 (fun H0 F H a y d Q e0 e1 b q => by
    cases d with
    | str z =>
      obtain ⟨c, q2⟩ := RP.ite (show RP (if a.length ≤ sizeLine then _ else R.bad) _ _ from q)
      rw [b.strOf]; exact ⟨a, z, rfl, rfl, c, VP.old (show VP K H0 F H .fr _ Q from q2) e0 (.str _)⟩
    | _ => exact (show False from q).elim) (fun a d x h => by
      cases d with
      | str b => exact ite_exc h
      | _ => cases h) ho.se he.se⟩
omit [Tbs] in
theorem fz_strs {K : PySem.W.Frag} {F : Hp} : ∀ ys : List Str, FzL K F (ys.map V.str) (ys.map D.str)
  | [] => .nil
  | y :: ys => .cons (.str y) (fz_strs ys)
/-- o.split(e) -/
theorem de_split (ho : DE K E X Γ o to m go) (he : DE K E X Γ e te m2 ga) (hs : starEach [e] X.env = [(false, eval e X.env)] := by rfl) (hbase : attributeBase o "split" X.env (eval o X.env) = eval o X.env := by rfl) (hline : (apos.endLine == pos.line) = true := by rfl) :
    DE K E X Γ (.Call (.Attribute o "split" apos) [e] [] pos) (tM1 (fun x xs H Q => ∃ a b, x = .str a ∧ xs = [.str b] ∧ (b.length == 0) = false ∧ a.length + 2 ≤ sizeLine ∧ rNewStrs (Txt.split a b) H Q) to te) (.ow .fr) (gT2 dSplit go ga) :=
  ⟨pe_split ho.pe he.pe hs hbase hline, se_t1 (fun H0 F H a y d Q e0 e1 b q => by
    cases d with
    | str z =>
      obtain ⟨c, q2⟩ := RP.ite (show RP (if (z.length == 0) = false ∧ a.length + 2 ≤ sizeLine then _ else R.bad) _ _ from q)
      rw [b.strOf]; exact ⟨a, z, rfl, rfl, c.1, c.2, fun p hp => VP.newL (show VP K H0 F H (.ow .fr) _ Q from q2) e0 hp (fz_strs _)⟩
    | _ => exact (show False from q).elim) (fun a d x h => by
      cases d with
      | str b => exact ite_exc h
      | _ => cases h) ho.se he.se⟩
/-- o.partition(e) -/
theorem de_part (ho : DE K E X Γ o to m go) (he : DE K E X Γ e te m2 ga) (hs : starEach [e] X.env = [(false, eval e X.env)] := by rfl) (hbase : attributeBase o "partition" X.env (eval o X.env) = eval o X.env := by rfl) (hline : (apos.endLine == pos.line) = true := by rfl) :
    DE K E X Γ (.Call (.Attribute o "partition" apos) [e] [] pos) (tM1 (fun x xs H Q => ∃ a b, x = .str a ∧ xs = [.str b] ∧ (b.length == 0) = false ∧ a.length ≤ sizeLine ∧
      ∀ p, H p = none → Q (.ref p) (upd H p (.tup [.str (Txt.partition a b).1, .str (Txt.partition a b).2.1, .str (Txt.partition a b).2.2]))) to te) .fr (gT2 dPart go ga) :=
  ⟨pe_partition ho.pe he.pe hs hbase hline, se_t1 (fun H0 F H a y d Q e0 e1 b q => by
    cases d with
    | str z =>
      obtain ⟨c, q2⟩ := RP.ite (show RP (if (z.length == 0) = false ∧ a.length ≤ sizeLine then _ else R.bad) _ _ from q)
      rw [b.strOf]; exact ⟨a, z, rfl, rfl, c.1, c.2, fun p hp => VP.newT (show VP K H0 F H .fr _ Q from q2) e0 hp (.cons (.str _) (.cons (.str _) (.cons (.str _) .nil)))⟩
    | _ => exact (show False from q).elim) (fun a d x h => by
      cases d with
      | str b => exact ite_exc h
      | _ => cases h) ho.se he.se⟩
omit [Tbs] in
theorem str_one {x : Str} {c : Nat} (h : x.cps.toList = [c]) : x = ⟨#[c]⟩ := by
  obtain ⟨⟨l⟩⟩ := x
  simp only at h
  rw [h]
def rInS (neg : Bool) : R2 := fun x y H Q => ∃ (c : Nat) (z : Str), x = .str ⟨#[c]⟩ ∧ y = .str z ∧ Q (.bl (decide (c ∈ z.cps.toList) ^^ neg)) H
theorem op_inS (X : Cx) : OpR X (compareOp .In) (rInS false) := fun pins s σ H x y v u Q I rx ry h => by
  obtain ⟨c, z, h1, h2, q⟩ := h
  rw [Bool.xor_false] at q
  exact op_in_sign pins s σ H x y v u Q I rx ry ⟨c, z, h1, h2, q⟩
theorem op_ninS (X : Cx) : OpR X (compareOp .NotIn) (rInS true) := fun pins s σ H x y v u Q I rx ry h => by
  obtain ⟨c, z, h1, h2, q⟩ := h
  rw [Bool.xor_true] at q
  exact op_notIn_sign pins s σ H x y v u Q I rx ry ⟨c, z, h1, h2, q⟩
theorem so_inS {neg : Bool} : SO2 K (rInS neg) .fr (dInS neg) := by
  intro H0 F H x y dx dy Q eF e0 hx hy q
  cases dx with
  | str a =>
    cases dy with
    | str z =>
      have q : RP (match a.cps.toList with
        | [c] => R.ok (D.bl (decide (c ∈ z.cps.toList) ^^ neg))
        | _ => R.bad) (fun d => VP K H0 F H .fr d Q) (fun _ => False) := q
      cases h : a.cps.toList with
      | nil => rw [h] at q; exact (show False from q).elim
      | cons c cs =>
        cases cs with
        | cons c2 cs => rw [h] at q; exact (show False from q).elim
        | nil =>
          rw [h] at q
          exact ⟨c, z, by rw [hx.strOf, str_one h], hy.strOf, VP.old (show VP K H0 F H .fr _ Q from q) eF (.bl _)⟩
    | _ => exact (show False from q).elim
  | _ => exact (show False from q).elim
omit [Tbs] in
theorem dInS_x {neg : Bool} : ∀ x y e, dInS neg x y ≠ .exc e := by
  intro x y e h
  cases x with
  | str a =>
    cases y with
    | str z =>
      have h : (match a.cps.toList with
        | [c] => R.ok (D.bl (decide (c ∈ z.cps.toList) ^^ neg))
        | _ => R.bad) = R.exc e := h
      cases h2 : a.cps.toList with
      | nil => rw [h2] at h; cases h
      | cons c cs =>
        rw [h2] at h
        cases cs <;> cases h
    | _ => cases h
  | _ => cases h
theorem de_inS (ha : DE K E X Γ a ta ma ga) (hb : DE K E X Γ b tb mb gb) (hm : behindInMarks .In b = false := by rfl) : DE K E X Γ (.Compare a [.In] [b] pos) (tOp (rInS false) ta tb) .fr (g2 (dInS false) ga gb) := DE.cmp (op_inS X) so_inS dInS_x hm ha hb
theorem dt_inS (ha : DE K E X Γ a ta ma ga) (hb : DE K E X Γ b tb mb gb) (hm : behindInMarks .In b = false := by rfl) : DT K E X Γ (.Compare a [.In] [b] pos) (tTest (tOp (rInS false) ta tb)) (gB (g2 (dInS false) ga gb)) := DT.cmp (op_inS X) so_inS dInS_x hm ha hb
theorem so_smul : SO2 K rSMul .fr dSMul := by
  intro H0 F H x y dx dy Q eF e0 hx hy q
  cases dx with
  | str a =>
    cases dy with
    | int n =>
      obtain ⟨c, q2⟩ := RP.ite (show RP (if -(2 ^ 63) ≤ n ∧ n < 2 ^ 63 ∧ a.length * n.toNat ≤ 16777216 then R.ok (D.str (Txt.mul a n)) else R.bad) _ _ from q)
      exact ⟨a, n, hx.strOf, hy.intOf, c.1, c.2.1, c.2.2, VP.old (show VP K H0 F H .fr _ Q from q2) eF (.str _)⟩
    | _ => exact (show False from q).elim
  | _ => exact (show False from q).elim
omit [Tbs] in
theorem dSMul_x : ∀ x y e, dSMul x y ≠ .exc e := by
  intro x y e h
  cases x with
  | str a =>
    cases y with
    | int n => exact ite_exc h
    | _ => cases h
  | _ => cases h
/-- text * n -/
theorem de_smul (ha : DE K E X Γ a ta ma ga) (hb : DE K E X Γ b tb mb gb) : DE K E X Γ (.BinOp a .Mult b pos) (tOp rSMul ta tb) .fr (g2 dSMul ga gb) := ⟨pe_op op_smul ha.pe hb.pe, se_op so_smul dSMul_x ha.se.pk hb.se.pk⟩
theorem sc_intT : SC K (fun xs H Q => ∃ a n, xs = [.str a] ∧ PySem.intText? a = some n ∧ a.length ≤ 640 ∧ Q (.int n) H) [.pk] .fr dIntT := by
  intro H0 F H vs ds Q eF e0 rvs q
  obtain ⟨v, d, rfl, rfl, rv⟩ := rvs.one
  cases d with
  | str a =>
    obtain ⟨c, q1⟩ := RP.ite (show RP (if a.length ≤ 640 then _ else R.bad) _ _ from q)
    obtain ⟨d, hl, hq⟩ := oR_ok (show RP (oR _) _ _ from q1)
    obtain ⟨n, hn, rfl⟩ := Option.map_eq_some_iff.mp hl
    exact ⟨a, n, by rw [rv.1.strOf], hn, c, VP.old hq eF (.int _)⟩
  | _ => exact (show False from q).elim
/-- int(e), e a text -/
theorem de_intT (U : Uni K E k X) (h : DE K E X Γ a ta m ga) (hg : Gl X "int" := by rfl) (he : starEach [a] X.env = (false, eval a X.env) :: starEach [] X.env := by rfl) : DE K E X Γ (.Call (.Name "int" p) [a] [] pos) (tCB (fun xs H Q => ∃ a n, xs = [.str a] ∧ PySem.intText? a = some n ∧ a.length ≤ 640 ∧ Q (.int n) H) (tCons ta tNil)) .fr (gAll dIntT (gsC ga gsN)) :=
  DE.callTy call_int_str sc_intT U.bn.int (by decide +kernel) (da_p h da_nil he) hg (by decide) (by decide) he rfl
end
end DL
/-! DLio: defs that change what they are handed: own lists and objects go in, and are left changed. -/
namespace DL
open PySem L2
variable [Tbs]
/-- several values with what they own -/
inductive RvO (K : PySem.W.Frag) (H0 F H : Hp) : List M → List V → List D → List (List Addr) → Prop
  | nil : RvO K H0 F H [] [] [] []
  | cons {m : M} {ms : List M} {v : V} {d : D} {fp : List Addr} {vs : List V} {ds : List D} {fps : List (List Addr)} : Rv K H0 F H m v d fp → RvO K H0 F H ms vs ds fps → RvO K H0 F H (m :: ms) (v :: vs) (d :: ds) (fp :: fps)
/-- how a def that changes things is handed them -/
def okO : M → Bool
  | .fr => true
  | .bo => true
  | .ow m => m.st
  | _ => false
def ioM (r : M) : List M → List V → M
  | .ow m :: ms, v :: vs => .io (ioM r ms vs) (.ow m) v
  | _ :: ms, _ :: vs => ioM r ms vs
  | _, _ => r
/-- a result, and behind it what is left of the things handed in -/
def outs (d : D) : List M → List D → D
  | .ow _ :: ms, e :: ρ => .tup [outs d ms ρ, e]
  | _ :: ms, _ :: ρ => outs d ms ρ
  | _, _ => d
def pinsOf : List M → List V → List M
  | .ow m :: ms, v :: vs => .pin (.ow m) v :: pinsOf ms vs
  | .fr :: ms, _ :: vs => .fr :: pinsOf ms vs
  | .bo :: ms, _ :: vs => .bo :: pinsOf ms vs
  | _ :: ms, _ :: vs => .un :: pinsOf ms vs
  | _, _ => []
def Pins : List M → List V → List M → Prop
  | .ow m :: ms, v :: vs, γ :: Γ => γ = .pin (.ow m) v ∧ Pins ms vs Γ
  | _ :: ms, _ :: vs, _ :: Γ => Pins ms vs Γ
  | [], [], _ => True
  | _, _, _ => False
def spO (K : PySem.W.Frag) (ms : List M) (mr : M) (f : List D → R D) : Sp := fun vs H Q E => ∃ F H0 ds fps, Same F H ∧ Same H0 H ∧ TbsOk H ∧ RvO K H0 F H ms vs ds fps ∧ fps.flatten.Nodup ∧ (∀ a ∈ fps.flatten, F a = none ∧ H0 a = none) ∧
  RP (f ds) (fun d => ∀ v F' H' fp, Ext F H0 F' H' → RvR K H0 F' H' (ioM mr ms vs) v d fp → Fresh H0 F' fp → Q v H') (XP K E F H0)
omit [Tbs] in
theorem RvO.lens {K : PySem.W.Frag} {H0 F H : Hp} {ms : List M} {vs : List V} {ds : List D} {fps : List (List Addr)} (h : RvO K H0 F H ms vs ds fps) : vs.length = ms.length ∧ ds.length = ms.length := by
  induction h with
  | nil => exact ⟨rfl, rfl⟩
  | cons _ _ ih => exact ⟨by rw [List.length_cons, List.length_cons, ih.1], by rw [List.length_cons, List.length_cons, ih.2]⟩
omit [Tbs] in
theorem pinsOf_len : ∀ {ms : List M} {vs : List V}, vs.length = ms.length → (pinsOf ms vs).length = ms.length
  | [], _, _ => rfl
  | m :: ms, [], h => by cases h
  | m :: ms, v :: vs, h => by
    have := pinsOf_len (ms := ms) (vs := vs) (by simpa using h)
    cases m <;> simp [pinsOf, this]
omit [Tbs] in
theorem RvO.so {K : PySem.W.Frag} {H0 F H : Hp} {ms : List M} {vs : List V} {ds : List D} {fps : List (List Addr)} (h : RvO K H0 F H ms vs ds fps) (hk : ∀ m ∈ ms, okO m = true) (k : Nat) : ∀ i,
    So K H0 F H ((pinsOf ms vs ++ List.replicate k M.un).getD i M.un) ((vs.map some ++ List.replicate k Option.none).getD i Option.none) ((ds ++ List.replicate k D.non).getD i D.non) (fps.getD i []) := by
  induction h with
  | nil =>
    intro i
    refine .inl ⟨?_, rfl⟩
    rw [show pinsOf [] [] = [] from rfl, List.nil_append, List.getD_eq_getElem?_getD, List.getElem?_replicate]
    split <;> rfl
  | @cons m ms v d fp vs ds fps h _ ih =>
    have ok := hk m List.mem_cons_self
    have ih := ih fun m' h' => hk m' (List.mem_cons_of_mem _ h')
    intro i
    cases m with
    | fr =>
      cases i with
      | zero => exact .inr ⟨v, rfl, rfl, h⟩
      | succ i => exact ih i
    | bo =>
      cases i with
      | zero => exact .inr ⟨v, rfl, rfl, h⟩
      | succ i => exact ih i
    | ow m =>
      cases i with
      | zero => exact .inr ⟨v, rfl, ok, rfl, h⟩
      | succ i => exact ih i
    | _ => cases ok
omit [Tbs] in
theorem flat_dj : ∀ {fps : List (List Addr)} {i j : Nat} {a : Addr}, fps.flatten.Nodup → a ∈ fps.getD i [] → a ∈ fps.getD j [] → i = j
  | [], i, j, a, _, h, _ => by simp at h
  | fp :: fps, i, j, a, nd, h1, h2 => by
    rw [List.flatten_cons] at nd
    obtain ⟨n1, n2, n3⟩ := List.nodup_append.mp nd
    have inn : ∀ i, a ∈ fps.getD i [] → a ∈ fps.flatten := fun i h => by
      rw [List.getD_eq_getElem?_getD] at h
      cases e : fps[i]? with
      | none => rw [e] at h; cases h
      | some l => rw [e] at h; exact List.mem_flatten.mpr ⟨l, List.mem_of_getElem? e, h⟩
    cases i with
    | zero =>
      cases j with
      | zero => rfl
      | succ j => exact absurd rfl (n3 a h1 a (inn j h2))
    | succ i =>
      cases j with
      | zero => exact absurd rfl (n3 a h2 a (inn i h1))
      | succ j => rw [flat_dj n2 h1 h2]
omit [Tbs] in
theorem flat_nd {fps : List (List Addr)} (nd : fps.flatten.Nodup) (i : Nat) : (fps.getD i []).Nodup := by
  induction fps generalizing i with
  | nil => exact List.nodup_nil
  | cons fp fps ih =>
    rw [List.flatten_cons] at nd
    obtain ⟨n1, n2, n3⟩ := List.nodup_append.mp nd
    cases i with
    | zero => exact n1
    | succ i => exact ih n2 i
omit [Tbs] in
theorem flat_in {fps : List (List Addr)} {i : Nat} {a : Addr} (h : a ∈ fps.getD i []) : a ∈ fps.flatten := by
  rw [List.getD_eq_getElem?_getD] at h
  cases e : fps[i]? with
  | none => rw [e] at h; cases h
  | some l => rw [e] at h; exact List.mem_flatten.mpr ⟨l, List.mem_of_getElem? e, h⟩
def startO (n : Nat) (ms : List M) (vs : List V) : List M := pinsOf ms vs ++ List.replicate (n - ms.length) .un
theorem Rel.startO {K : PySem.W.Frag} {H0 F H : Hp} {ms : List M} {vs : List V} {ds : List D} {fps : List (List Addr)} {N : List Str} (e : Same F H) (e0 : Same H0 H) (tb : TbsOk H) (h : RvO K H0 F H ms vs ds fps) (nd : fps.flatten.Nodup) (un : ∀ a ∈ fps.flatten, F a = none ∧ H0 a = none) (hk : ∀ m ∈ ms, okO m = true) (hn : ms.length ≤ N.length) :
    Rel K F H0 (startO N.length ms vs) (startR N.length ds) (L2.start N vs) F H (fun i => fps.getD i []) := by
  obtain ⟨l1, l2⟩ := h.lens
  have l3 := pinsOf_len l1
  unfold DL.startO startR L2.start
  refine ⟨e, Same.refl _, e0, tb, fun a o q => .inl q, ?_, ?_, fun i => ?_, fun i => flat_nd nd i, fun i j a ha hb => flat_dj nd ha hb, fun i a ha => un a (flat_in ha)⟩
  · simp only [List.length_append, List.length_map, List.length_replicate]; omega
  · simp only [List.length_append, List.length_map, List.length_replicate]; omega
  · rw [l1, l2]
    exact h.so hk (N.length - ms.length) i
section
variable {K : PySem.W.Frag} {F0 H0 F H : Hp} {Γ : List M} {ρ : List D} {σ : St} {fps : Nat → List Addr}
theorem outs_ok {r : M} {v : V} {d : D} {fp0 : List Addr} (rel : Rel K F0 H0 Γ ρ σ F H fps) (h0 : RvR K H0 F H r v d fp0) (nd0 : fp0.Nodup) : ∀ (ms : List M) (vs : List V) (k : Nat), Pins ms vs (Γ.drop k) → (∀ j a, k ≤ j → a ∈ fps j → a ∉ fp0) →
    ∃ fp, RvR K H0 F H (ioM r ms vs) v (outs d ms (ρ.drop k)) fp ∧ fp.Nodup ∧ ∀ a ∈ fp, a ∈ fp0 ∨ ∃ j, k ≤ j ∧ a ∈ fps j
  | [], vs, k, hp, dj => by
    refine ⟨fp0, ?_, nd0, fun a ha => .inl ha⟩
    cases vs with
    | nil =>
      have : outs d [] (ρ.drop k) = d := by cases ρ.drop k <;> rfl
      rw [this]
      exact h0
    | cons _ _ => exact (show False from hp).elim
  | m :: ms, [], k, hp, dj => by cases m <;> exact (show False from hp).elim
  | m :: ms, v0 :: vs, k, hp, dj => by
    cases eΓ : Γ.drop k with
    | nil => rw [eΓ] at hp; cases m <;> exact (show False from hp).elim
    | cons γ Γ' =>
      have hk : k < Γ.length := by
        by_cases q : k < Γ.length
        · exact q
        · rw [List.drop_eq_nil_of_le (by omega)] at eΓ; cases eΓ
      have e1 := List.drop_eq_getElem_cons hk
      rw [eΓ] at e1
      obtain ⟨e2, e3⟩ := List.cons.inj e1
      have hkr : k < ρ.length := by rw [rel.lr, ← rel.lg]; exact hk
      have e4 := List.drop_eq_getElem_cons hkr
      rw [eΓ] at hp
      have go : Pins ms vs (Γ.drop (k + 1)) → ∃ fp, RvR K H0 F H (ioM r ms vs) v (outs d ms (ρ.drop (k + 1))) fp ∧ fp.Nodup ∧ ∀ a ∈ fp, a ∈ fp0 ∨ ∃ j, k + 1 ≤ j ∧ a ∈ fps j := fun hp' =>
        outs_ok rel h0 nd0 ms vs (k + 1) hp' fun j a hj => dj j a (by omega)
      have skip : Pins ms vs (Γ.drop (k + 1)) → ∃ fp, RvR K H0 F H (ioM r ms vs) v (outs d ms (ρ.drop (k + 1))) fp ∧ fp.Nodup ∧ ∀ a ∈ fp, a ∈ fp0 ∨ ∃ j, k ≤ j ∧ a ∈ fps j := fun hp' => by
        obtain ⟨fp, a1, a2, a3⟩ := go hp'
        exact ⟨fp, a1, a2, fun a ha => (a3 a ha).imp id fun ⟨j, hj, q⟩ => ⟨j, by omega, q⟩⟩
      rw [e4]
      cases m with
      | ow m =>
        obtain ⟨hγ, hp'⟩ := (show γ = .pin (.ow m) v0 ∧ Pins ms vs Γ' from hp)
        rw [e3] at hp'
        obtain ⟨fp, a1, a2, a3⟩ := go hp'
        have hg : Γ[k]? = some (.pin (.ow m) v0) := by rw [List.getElem?_eq_getElem hk, ← e2, hγ]
        obtain ⟨v', hv', st, rv⟩ := rel.get hg (fun z => nomatch z)
        have ed : ρ.getD k .non = ρ[k] := by rw [List.getD_eq_getElem?_getD, List.getElem?_eq_getElem hkr]; rfl
        rw [ed] at rv
        obtain ⟨ev, rv2⟩ := (show v' = v0 ∧ Rv K H0 F H (.ow m) v' ρ[k] (fps k) from rv)
        subst ev
        refine ⟨fp ++ fps k, ⟨fp, fps k, rfl, a1, rv2⟩, List.nodup_append.mpr ⟨a2, rel.nd k, fun a ha b hb e => ?_⟩, fun a ha => ?_⟩
        · subst e
          rcases a3 a ha with z | ⟨j, hj, z⟩
          · exact dj k a (Nat.le_refl _) hb z
          · have := rel.dj j k a z hb; omega
        · rcases List.mem_append.mp ha with z | z
          · exact (a3 a z).imp id fun ⟨j, hj, q⟩ => ⟨j, by omega, q⟩
          · exact .inr ⟨k, Nat.le_refl _, z⟩
      | un => rw [e3] at hp; exact skip hp
      | fr => rw [e3] at hp; exact skip hp
      | bo => rw [e3] at hp; exact skip hp
      | pk => rw [e3] at hp; exact skip hp
      | pin _ _ => rw [e3] at hp; exact skip hp
      | io _ _ _ => rw [e3] at hp; exact skip hp
end
def gRetO (ms : List M) (g : List D → R D) : List D → R Fl := fun ρ => g ρ >>= fun d => .ok (.rt (outs d ms ρ))
section
variable {K : PySem.W.Frag} {E : XK} {X : Cx} {Γ n b c : List M} {e : Expr} {t : TE} {mr : M} {g : List D → R D} {pos : Pos}
theorem ss_retO {ms : List M} {vs : List V} (h : SE K E Γ t mr g) (hp : Pins ms vs Γ) : SS K E Γ n b c (ioM mr ms vs) (tRet t) (gRetO ms g) := fun F0 H0 ρ σ F H fps N rel q => by
  refine h F0 H0 ρ σ F H fps _ rel ((RP.bind q).imp (fun d hd v F' H' fp x rv f => ?_) fun _ z => z.on rel.x0)
  have rel' := rel.ext x
  obtain ⟨fp', r1, r2, r3⟩ := outs_ok rel' (.of rv) f.nd ms vs 0 hp fun j a _ ha hz => by
    obtain ⟨o, ho⟩ := rel.there ha
    rw [(f.un a hz).1] at ho
    cases ho
  exact hd v F' H' fp' (rel.x0.trans x) r1 ⟨r2, fun a ha => by
    rcases r3 a ha with z | ⟨j, _, z⟩
    · exact (f.back rel.h0).un a z
    · exact ⟨(rel'.ow j a z).2, (rel'.ow j a z).1⟩⟩
/-- return e, of a def that changes what it is handed -/
theorem ds_retO {ms : List M} {vs : List V} (h : DE K E X Γ e t mr g) (hp : Pins ms vs Γ := by repeat' (first | exact trivial | refine ⟨rfl, ?_⟩)) : DS K E X Γ (.Return (some e) pos) (tRet t) n b c (ioM mr ms vs) (gRetO ms g) := ⟨ps_ret h.pe, ss_retO h.se hp⟩
end
def finO (ms : List M) : Fl → R D
  | .rt d => .ok d
  | .nx ρ => .ok (outs .non ms ρ)
  | _ => .bad
def runO (n : Nat) (ms : List M) (g : List D → R Fl) : List D → R D := fun ds => g (startR n ds) >>= finO ms
theorem fn_bodyO {P : Program} {w : World} {K : PySem.W.Frag} {mg : Str → Option Value} {base : Heap} {x qual : Str} {st : Stmt} {a : Addr} {fd : FuncData} {N ps : List Str} {k : Nat} {ms : List M} {mr : M} {b c : List M} {f : List D → R D} (g : List D → R Fl)
    (hf : f = runO N.length ms g) (B : Bn mg) (F : Fun K x qual st a fd) (S : FnScope N ps (defScope st)) (hl : ms.length = ps.length) (hr : mr.fz = true) (hk : ∀ m ∈ ms, okO m = true)
    (body : ∀ (vs : List V), vs.length = ms.length → ∀ (cdv : Value) (A : Around) (outer : List Env) (s : Shared) (H : Hp) (E : XK), Uni K E k (cxOf (L2.CX P w) P w K mg base N qual (defScope st) a cdv A outer s H E) →
      ∃ t n, Pins ms vs n ∧ DSs K E (cxOf (L2.CX P w) P w K mg base N qual (defScope st) a cdv A outer s H E) (startO N.length ms vs) (defBody st) t n b c (ioM mr ms vs) g) :
    FnOk P w K mg base (L2.CX P w) (k + 1) a fd ps (spO K ms mr f) := by
  subst hf
  refine F.okX S (fun vs H Q E ⟨F, H0, ds, fps, _, _, _, h, _⟩ => by rw [h.lens.1, hl]) fun cdv A outer s H vs Q E hr1 ⟨F, H0, ds, fps, eF, e0, tb, h, nd, un, q⟩ => ?_
  have tk := takes_of (X := cxOf (L2.CX P w) P w K mg base N qual (defScope st) a cdv A outer s H E) (E := E) rfl rfl rfl rfl
  have U : Uni K E k (cxOf (L2.CX P w) P w K mg base N qual (defScope st) a cdv A outer s H E) := ⟨rfl, S.nd, rfl, hr1, hr1.units, passes_of rfl, passes_call tk fun _ _ _ _ h => h, tk, B⟩
  obtain ⟨t, n, hp, hb⟩ := body vs h.lens.1 cdv A outer s H E U
  refine ⟨t, hb.ps, hb.ss F H0 _ _ F H _ _ (Rel.startO eF e0 tb h nd un hk ?_) ((RP.bind q).imp (fun fl hf => ?_) fun _ z => z)⟩
  · rw [hl]
    have e := congrArg List.length S.pre
    rw [List.length_take] at e
    omega
  · cases fl with
    | nx ρ =>
      intro σ' F' H' fps' s rel
      have hf : ∀ v F' H' fp, Ext F H0 F' H' → RvR K H0 F' H' (ioM mr ms vs) v (outs .non ms ρ) fp → Fresh H0 F' fp → Q v H' := hf
      obtain ⟨fp', r1, r2, r3⟩ := outs_ok (r := mr) (v := .non) (d := .non) (fp0 := []) rel (.of (by
        cases mr with
        | fr => exact ⟨.non, rfl⟩
        | ow m => exact ⟨.non, rfl⟩
        | _ => cases hr)) List.nodup_nil ms vs 0 hp fun _ _ _ _ h => nomatch h
      exact hf .non F' H' fp' rel.x0 r1 ⟨r2, fun a ha => by
        rcases r3 a ha with z | ⟨j, _, z⟩
        · cases z
        · exact ⟨(rel.ow j a z).2, (rel.ow j a z).1⟩⟩
    | rt d => exact hf
    | bk _ => exact (show False from hf).elim
    | ct _ => exact (show False from hf).elim
end DL
/-! DLsx: min of three, truth of any flat thing, x or y as a value, x[a:b] = an own list. -/
namespace DL
open PySem PySem.Spec PyProof.Rows L2
variable [Tbs]

/-! ### min of three -/
section
variable {K : PySem.W.Frag} {E : XK} {X : Cx} {Γ : List M} {a b c : Expr} {ta tb tc : TE} {ma mb mc : M} {ga gb gc' : List D → R D} {p pos : Pos} {k : Nat}
def dMin3 : List D → R D
  | [.int i, .int j, .int l] => .ok (.int (min (min i j) l))
  | _ => .bad
omit [Tbs] in
theorem Rvs.three {K : PySem.W.Frag} {H0 F H : Hp} {m1 m2 m3 : M} {vs : List V} {ds : List D} (h : Rvs K H0 F H [m1, m2, m3] vs ds) :
    ∃ v1 d1 v2 d2 v3 d3, vs = [v1, v2, v3] ∧ ds = [d1, d2, d3] ∧ Rv K H0 F H m1 v1 d1 [] ∧ Rv K H0 F H m2 v2 d2 [] ∧ Rv K H0 F H m3 v3 d3 [] := by
  cases h with
  | cons h1 h =>
    cases h with
    | cons h2 h =>
      cases h with
      | cons h3 h =>
        cases h
        exact ⟨_, _, _, _, _, _, rfl, rfl, h1, h2, h3⟩
theorem sc_min3 : SC K (rNuC3 nuMin3) [.pk, .pk, .pk] .fr dMin3 := by
  intro H0 F H vs ds Q eF e0 rvs q
  obtain ⟨v1, d1, v2, d2, v3, d3, rfl, rfl, r1, r2, r3⟩ := rvs.three
  cases d1 with
  | int i =>
    cases d2 with
    | int j =>
      cases d3 with
      | int l =>
        obtain rfl := r1.1.intOf
        obtain rfl := r2.1.intOf
        obtain rfl := r3.1.intOf
        refine ⟨_, _, _, .int (min (min i j) l), rfl, ?_, VP.old (show VP K H0 F H .fr _ Q from q) eF (.int _)⟩
        have h2 : ∀ x y : Int, nuMin2 (.int x) (.int y) = some (.int (min x y)) := fun x y => by
          show some (if decide (y < x) = true then V.int y else V.int x) = _
          by_cases z : y < x
          · rw [if_pos (decide_eq_true z), Int.min_eq_right (Int.le_of_lt z)]
          · rw [if_neg (by rw [decide_eq_true_eq]; exact z), Int.min_eq_left (by omega)]
        show (nuMin2 (.int i) (.int j)).bind (fun m => nuMin2 m (.int l)) = _
        rw [h2]
        exact h2 _ _
      | _ => exact (show False from q).elim
    | _ => exact (show False from q).elim
  | _ => exact (show False from q).elim
theorem de_min3 (U : Uni K E k X) (h : DE K E X Γ a ta ma ga) (h2 : DE K E X Γ b tb mb gb) (h3 : DE K E X Γ c tc mc gc') (hg : Gl X "min" := by rfl) (he : starEach [a, b, c] X.env = (false, eval a X.env) :: starEach [b, c] X.env := by rfl) (he2 : starEach [b, c] X.env = (false, eval b X.env) :: starEach [c] X.env := by rfl) (he3 : starEach [c] X.env = (false, eval c X.env) :: starEach [] X.env := by rfl) (hpl : (backTo pos (starEach [b, c] X.env)).any (·.1) = false := by rfl) :
    DE K E X Γ (.Call (.Name "min" p) [a, b, c] [] pos) (tCB (rNuC3 nuMin3) (tCons ta (tCons tb (tCons tc tNil)))) .fr (gAll dMin3 (gsC ga (gsC gb (gsC gc' gsN)))) :=
  DE.callB (call_min3Nu U.calm) sc_min3 U.bn.min (by decide +kernel) (da_p h (da_p h2 (da_p h3 da_nil he3) he2) he) hg (by decide) (by decide) he hpl
end

/-! ### truth -/
section
variable {K : PySem.W.Frag} {E : XK} {X : Cx} {Γ : List M} {a b e : Expr} {rest : List Expr} {ta tb t : TE} {m : M} {ga gb g : List D → R D} {p pos : Pos} {k : Nat}
def dTru : D → R Bool
  | .non => .ok false
  | .bl c => .ok c
  | .int i => .ok (i != 0)
  | .str z => if z.length ≤ sizeLine then .ok ((z.length : Int) != 0) else .bad
  | .lst ds => .ok (!ds.isEmpty)
  | .tup ds => .ok (!ds.isEmpty)
  | _ => .bad
def gTru (g : List D → R D) : List D → R Bool := fun ρ => g ρ >>= dTru
omit [Tbs] in
theorem BoL.emp {K : PySem.W.Frag} {H F : Hp} {vs : List V} {ds : List D} (h : BoL K H F vs ds) : vs.isEmpty = ds.isEmpty := by
  cases h <;> rfl
omit [Tbs] in
theorem FzL.emp {K : PySem.W.Frag} {F : Hp} {vs : List V} {ds : List D} (h : FzL K F vs ds) : vs.isEmpty = ds.isEmpty := by
  cases h <;> rfl
omit [Tbs] in
theorem Bo.tru {K : PySem.W.Frag} {H F : Hp} {v : V} {d : D} {c : Bool} (e : Same F H) (h : Bo K H F v d) (q : dTru d = .ok c) : TruV K v H c := by
  cases d with
  | non => obtain rfl := h.nonOf; cases q; exact rfl
  | bl x => obtain rfl := h.blOf; cases q; exact rfl
  | int i => obtain rfl := h.intOf; cases q; exact rfl
  | str z =>
    obtain rfl := h.strOf
    by_cases w : z.length ≤ sizeLine
    · rw [show dTru (.str z) = .ok ((z.length : Int) != 0) from if_pos w] at q
      cases q
      exact ⟨w, rfl⟩
    · rw [show dTru (.str z) = .bad from if_neg w] at q
      cases q
  | lst ds =>
    obtain ⟨a, vs, rfl, h1, h2⟩ := h.listOf e
    cases q
    exact .inl ⟨vs, h1, by rw [h2.emp]⟩
  | tup ds =>
    obtain ⟨a, vs, rfl, h1, h2⟩ := h.tupOf
    cases q
    exact .inr (.inl ⟨vs, e.sqt h1, by rw [h2.emp]⟩)
  | _ => cases q
theorem st_tru (h : SE K E Γ t m g) : ST K E Γ (fun σ H Q => t σ H fun x H' => ∃ k, TruV K x H' k ∧ Q k H') (gTru g) := fun F0 H0 ρ σ F H fps Q r q => by
  refine h.pk F0 H0 ρ σ F H fps _ r ((RP.bind q).imp (fun d hd v F' H' fp x rv f => ?_) fun _ z => z)
  cases hc : dTru d with
  | ok c =>
    rw [hc] at hd
    exact ⟨c, rv.1.tru x.fh hc, hd F' H' x⟩
  | exc z =>
    exfalso
    cases d with
    | str y =>
      by_cases w : y.length ≤ sizeLine
      · rw [show dTru (.str y) = .ok ((y.length : Int) != 0) from if_pos w] at hc; cases hc
      · rw [show dTru (.str y) = .bad from if_neg w] at hc; cases hc
    | _ => cases hc
  | bad => rw [hc] at hd; exact (show False from hd).elim
/-- a test that is the truth of what a thing is -/
theorem dt_tru (U : Uni K E k X) (h : DE K E X Γ e t m g) (he : ∀ whole, isTrue e X.env whole = (do let v ← whole; standAt e.pos; holding [v] (truthy v)) := by intro _; rfl) : DT K E X Γ e (fun σ H Q => t σ H fun x H' => ∃ k, TruV K x H' k ∧ Q k H') (gTru g) := by
  have e0 := U.K
  subst e0
  exact ⟨pt_truth h.pe he, st_tru h.se⟩
def dOrV (d : D) (r : R D) : R D := dTru d >>= fun c => if c = true then .ok d else r
def gOrV (ga gb : List D → R D) : List D → R D := fun ρ => ga ρ >>= fun d => dOrV d (gb ρ)
theorem se_orV (h1 : SE K E Γ ta .fr ga) (h2 : SE K E Γ tb .fr gb) : SE K E Γ (tOrT K ta tb) .fr (gOrV ga gb) := fun F0 H0 ρ σ F H fps Q r q => by
  refine h1 F0 H0 ρ σ F H fps _ r ((RP.bind q).imp (fun d hd v F' H' fp x rv f => ?_) fun _ z => z)
  have hd := RP.bind (show RP (dTru d >>= _) _ _ from hd)
  cases hc : dTru d with
  | ok c =>
    rw [hc] at hd
    have bo : Bo K H' F' v d := .fz rv.1
    refine ⟨c, bo.tru x.fh hc, ?_⟩
    cases c with
    | true =>
      rw [if_pos rfl]
      exact (show VP K H0 F H .fr d Q from hd) v F' H' fp x rv f
    | false =>
      rw [if_neg Bool.false_ne_true]
      exact h2 F0 H0 ρ σ F' H' fps Q (r.ext x) (RP.imp (show RP (gb ρ) _ _ from hd) (fun d hd => hd.on x) fun _ z => z.on x)
  | exc z =>
    exfalso
    cases d with
    | str y =>
      by_cases w : y.length ≤ sizeLine
      · rw [show dTru (.str y) = .ok ((y.length : Int) != 0) from if_pos w] at hc; cases hc
      · rw [show dTru (.str y) = .bad from if_neg w] at hc; cases hc
    | _ => cases hc
  | bad => rw [hc] at hd; exact (show False from hd).elim
/-- a or b, whatever a is -/
theorem de_orV (U : Uni K E k X) (h1 : DE K E X Γ a ta .fr ga) (h2 : DE K E X Γ (.BoolOp .Or (b :: rest) pos) tb .fr gb) : DE K E X Γ (.BoolOp .Or (a :: b :: rest) pos) (tOrT K ta tb) .fr (gOrV ga gb) := by
  have e0 := U.K
  subst e0
  exact ⟨pe_orT h1.pe h2.pe, se_orV h1.se h2.se⟩
end

section
variable {K : PySem.W.Frag} {E : XK} {X : Cx} {Γ n b c : List M} {pos p2 : Pos}
/-- return, of a def that changes what it is handed -/
theorem ds_retON {ms : List M} {vs : List V} (hp : Pins ms vs Γ := by repeat' (first | exact trivial | refine ⟨rfl, ?_⟩)) : DS K E X Γ (.Return none pos) tRetN n b c (ioM .fr ms vs) (gRetO ms (gc .non)) :=
  ⟨ps_retN, ss_retO (de_non (K := K) (E := E) (X := X) (Γ := Γ) (pos := pos) (j := 0)).se hp⟩
end

/-! ### x[a:b] = an own list -/
def gSlc (to : TE) (tl th : TO) : TG := fun v σ H Q => to σ H fun o H1 => tl σ H1 fun lo H2 => th σ H2 fun hi H3 =>
  ∃ (l b : Addr) (xs ys : List V) (a c : Int), o = .ref l ∧ v = .ref b ∧ lo = some a ∧ hi = some c ∧ H3 l = some (.lst xs) ∧ H3 b = some (.lst ys) ∧ l ≠ b ∧ 0 ≤ a ∧ a ≤ c ∧ c ≤ xs.length ∧ xs.length + ys.length ≤ sizeLine ∧
    Q σ (upd H3 l (.lst (xs.take a.toNat ++ ys ++ xs.drop c.toNat)))
omit [Tbs] in
theorem pg_slc {X : Cx} {o : Expr} {lo hi : Option Expr} {p2 pos : Pos} {to : TE} {tl th : TO} (ho : PE X o to) (hl : PO X lo tl) (hu : PO X hi th)
    (ha : ∀ v, assign (.Subscript o (.Slice lo hi none p2) pos) X.env v = (do
      let ov ← holding [v] (eval o X.env)
      let iv ← holding [v, ov] (eval (.Slice lo hi none p2) X.env)
      standAt pos
      holding [v, ov, iv] (setItem ov iv v)
      release [iv, v, ov] []) := by intro _; rfl) : PG X (.Subscript o (.Slice lo hi none p2) pos) (gSlc to tl th) := by
  refine ⟨fun pins s σ H v u Q I r h => ?_⟩
  rw [ha]
  refine wpAny_bind (wpAny_holding (thn (ho.run pins s σ H _ I h) fun ov s1 ⟨x, H1, I1, r1, q1⟩ => ?_))
  refine wpAny_bind (wpAny_holding (wpAny_Slice (thn (hl.run pins s1 σ H1 _ I1 q1) fun vl s2 ⟨lw, H2, I2, pl, q2⟩ => thn (hu.run pins s2 σ H2 _ I2 q2) fun vu s3 ⟨hw, H3, I3, pu, q3⟩ => ?_)))
  rw [evalPart_none]
  refine wpAny_pure ?_
  obtain ⟨l, b, xs, ys, a, c, rfl, rfl, rfl, rfl, h1, h2, hne, h0, hac, hc, hz, q⟩ := q3
  cases r1
  cases r
  cases pl with
  | int _ t1 =>
    cases pu with
    | int _ t2 =>
      have I4 : Inv X pins σ H3 { s3 with heap := s3.heap.push { cls := .type "slice", data := .fields #[.int a t1, .int c t2, .none] } } := I3.kept (t' := s3.toks) fun b ob q => Heap.get?_push_of_some _ q
      refine wpAny_bind (wpAny_standAt (wpAny_bind (wpAny_holding ?_)))
      refine set_slice I4 h1 h2 hne (Heap.IsSliceOf.new ..) ⟨t1, rfl⟩ ⟨t2, rfl⟩ h0 hac hc hz fun s' I' => ?_
      exact wpAny_release ⟨σ, _, I', q⟩
section
variable {K : PySem.W.Frag} {E : XK} {X : Cx} {Γ n b c : List M} {e : Expr} {lo hi : Option Expr} {t te : TE} {tl th : TO} {m r : M} {g : List D → R D} {gl gh : List D → R (Option Int)} {p1 p2 p3 pos : Pos} {k : Nat}
def dSetSl (x y : D) (lo hi : Option Int) : R D := match x, y, lo, hi with
  | .lst xs, .lst ys, some a, some c => if 0 ≤ a ∧ a ≤ c ∧ c ≤ xs.length ∧ xs.length + ys.length ≤ sizeLine then .ok (.lst (xs.take a.toNat ++ ys ++ xs.drop c.toNat)) else .bad
  | _, _, _, _ => .bad
def gSetSl (i : Nat) (g : List D → R D) (gl gh : List D → R (Option Int)) : List D → R Fl := fun ρ => g ρ >>= fun y => gl ρ >>= fun lo => gh ρ >>= fun hi => dSetSl (ρ.getD i .non) y lo hi >>= fun z => .ok (.nx (ρ.set i z))
omit [Tbs] in
theorem dSetSl_ok {x y z : D} {lo hi : Option Int} {P : D → Prop} {Y : Ex → Prop} (h : RP (dSetSl x y lo hi) P Y) : ∃ xs ys a c, x = .lst xs ∧ y = .lst ys ∧ lo = some a ∧ hi = some c ∧ (0 ≤ a ∧ a ≤ c ∧ c ≤ xs.length ∧ xs.length + ys.length ≤ sizeLine) ∧ P (.lst (xs.take a.toNat ++ ys ++ xs.drop c.toNat)) := by
  cases x with
  | lst xs =>
    cases y with
    | lst ys =>
      cases lo with
      | none => exact (show False from h).elim
      | some a =>
        cases hi with
        | none => exact (show False from h).elim
        | some c =>
          obtain ⟨w, q⟩ := RP.ite (show RP (if _ then _ else _) _ _ from h)
          exact ⟨xs, ys, a, c, rfl, rfl, rfl, rfl, w, q⟩
    | _ => exact (show False from h).elim
  | _ => exact (show False from h).elim
theorem ss_setSl {i : Nat} (hi' : Γ[i]? = some (.ow .fr)) (h : SE K E Γ te (.ow .fr) g) (hl : DO K E X Γ lo tl gl) (hh : DO K E X Γ hi th gh) : SS K E Γ Γ b c r (tAsg te (gSlc (tVar i) tl th)) (gSetSl i g gl gh) := fun F0 H0 ρ σ F H fps N rel q => by
  refine h F0 H0 ρ σ F H fps _ rel ((RP.bind q).imp (fun d q1 y F1 H1 fpy x rvy fy => ?_) fun _ z => z.on rel.x0)
  have rel1 := rel.ext x
  obtain ⟨v, hv, st, rv⟩ := rel1.get hi' (fun z => nomatch z)
  refine ⟨v, hv, ?_⟩
  refine hl.so F0 H0 ρ σ F1 H1 fps _ rel1 ((RP.bind q1).imp (fun lw q2 F2 H2 x2 => ?_) fun _ z => z.on rel1.x0)
  have rel2 := rel1.ext x2
  refine hh.so F0 H0 ρ σ F2 H2 fps _ rel2 ((RP.bind q2).imp (fun hw q3 F3 H3 x3 => ?_) fun _ z => z.on rel2.x0)
  have rel3 := rel2.ext x3
  obtain ⟨xs, ys, a, cc, e1, rfl, rfl, rfl, ⟨h0, hac, hc, hz⟩, q4⟩ := dSetSl_ok (z := .non) (RP.bind q3)
  rw [e1] at rv
  obtain ⟨l, vs, f1, rfl, hlv, al, ef⟩ := Rv.ow_lst ((rv.grow x2.f x2.h).grow x3.f x3.h)
  obtain ⟨fz, e2⟩ := al.fr
  subst e2
  obtain ⟨bb, ws, f2, rfl, hbv, al2, ef2⟩ := Rv.ow_lst ((rvy.grow x2.f x2.h).grow x3.f x3.h)
  obtain ⟨fz2, e3⟩ := al2.fr
  subst e3
  have hlm : l ∈ fps i := by rw [ef]; exact List.mem_cons_self
  have hne : l ≠ bb := fun z => by
    have u := (fy.un bb (by rw [ef2]; exact List.mem_cons_self)).1
    obtain ⟨o, w⟩ := rel.there hlm
    rw [z, u] at w
    cases w
  have l1 := fz.length
  have l2 := fz2.length
  refine ⟨l, bb, vs, ws, a, cc, rfl, rfl, rfl, rfl, hlv, hbv, hne, h0, hac, by omega, by omega, ?_⟩
  refine (show FP K F0 H0 F Γ b c r N (.nx _) from q4) σ F3 _ (fun j => if j = i then [l] else fps j) (x.f.trans (x2.f.trans x3.f)) (rel3.mut hi' hv st hlm ⟨l, _, [], rfl, upd_same, (((fz.take _).append fz2).append (fz.drop _)).al, rfl⟩ (by simp) (fun a ha => ?_) fun jj a hjj ha hz => ?_)
  · have e : a = l := by simpa using ha
    subst e
    exact rel3.ow i a hlm
  · have e : a = l := by simpa using hz
    subst e
    exact hjj (rel3.dj jj i a ha hlm)
/-- x[a:c] = e, e a new list -/
theorem ds_setSl (i : Nat) {x : Str} (U : Uni K E k X) (h : DE K E X Γ e te (.ow .fr) g) (hl : DO K E X Γ lo tl gl) (hh : DO K E X Γ hi th gh) (hi' : Γ[i]? = some (.ow .fr) := by rfl) (hN : X.N[i]? = some x := by rfl) (hv : Vis X.env.scope x := by first | exact Or.inl rfl | exact Or.inr (Or.inl rfl) | exact Or.inr (Or.inr rfl))
    (hd : (x == ("__debug__" : Str)) = false := by decide) (hcd : (x == ("__classdict__" : Str)) = false := by decide)
    (pg : PE X (.Name x p1) (tVar i) → PO X lo tl → PO X hi th → PG X (.Subscript (.Name x p1) (.Slice lo hi none p3) p2) (gSlc (tVar i) tl th) := by exact fun h1 h2 h3 => pg_slc h1 h2 h3)
    (ps : PE X e te → PG X (.Subscript (.Name x p1) (.Slice lo hi none p3) p2) (gSlc (tVar i) tl th) → PS X (.Assign [.Subscript (.Name x p1) (.Slice lo hi none p3) p2] e pos) (tAsg te (gSlc (tVar i) tl th)) := by exact fun h1 h2 => ps_asg h1 h2) :
    DS K E X Γ (.Assign [.Subscript (.Name x p1) (.Slice lo hi none p3) p2] e pos) (tAsg te (gSlc (tVar i) tl th)) Γ b c r (gSetSl i g gl gh) := ⟨ps h.pe (pg (pe_var hN hv hd hcd) hl.po hh.po), ss_setSl hi' h.se hl hh⟩
theorem ss_setSlV {i j : Nat} (hij : j ≠ i) (hj : Γ[j]? = some (.ow .fr)) (hi' : Γ[i]? = some (.ow .fr)) (hl : DO K E X Γ lo tl gl) (hh : DO K E X Γ hi th gh) : SS K E Γ Γ b c r (tAsg (tVar j) (gSlc (tVar i) tl th)) (gSetSl i (gv j) gl gh) := fun F0 H0 ρ σ F H fps N rel q => by
  obtain ⟨vy, hvy, sty, rvy⟩ := rel.get hj (fun z => nomatch z)
  obtain ⟨v, hv, st, rv⟩ := rel.get hi' (fun z => nomatch z)
  refine ⟨vy, hvy, v, hv, ?_⟩
  have q1 : RP (gl ρ >>= fun lo => gh ρ >>= fun hi => dSetSl (ρ.getD i .non) (ρ.getD j .non) lo hi >>= fun z => .ok (.nx (ρ.set i z))) (FP K F0 H0 F Γ b c r N) (XP K E F0 H0) := q
  refine hl.so F0 H0 ρ σ F H fps _ rel ((RP.bind q1).imp (fun lw q2 F2 H2 x2 => ?_) fun _ z => z.on rel.x0)
  have rel2 := rel.ext x2
  refine hh.so F0 H0 ρ σ F2 H2 fps _ rel2 ((RP.bind q2).imp (fun hw q3 F3 H3 x3 => ?_) fun _ z => z.on rel2.x0)
  have rel3 := rel2.ext x3
  obtain ⟨xs, ys, a, cc, e1, e1', rfl, rfl, ⟨h0, hac, hc, hz⟩, q4⟩ := dSetSl_ok (z := .non) (RP.bind q3)
  rw [e1] at rv
  rw [e1'] at rvy
  obtain ⟨l, vs, f1, rfl, hlv, al, ef⟩ := Rv.ow_lst ((rv.grow x2.f x2.h).grow x3.f x3.h)
  obtain ⟨fz, e2⟩ := al.fr
  subst e2
  obtain ⟨bb, ws, f2, rfl, hbv, al2, ef2⟩ := Rv.ow_lst ((rvy.grow x2.f x2.h).grow x3.f x3.h)
  obtain ⟨fz2, e3⟩ := al2.fr
  subst e3
  have hlm : l ∈ fps i := by rw [ef]; exact List.mem_cons_self
  have hbm : bb ∈ fps j := by rw [ef2]; exact List.mem_cons_self
  have hne : l ≠ bb := fun z => hij (rel.dj j i bb hbm (by rw [← z]; exact hlm))
  have l1 := fz.length
  have l2 := fz2.length
  refine ⟨l, bb, vs, ws, a, cc, rfl, rfl, rfl, rfl, hlv, hbv, hne, h0, hac, by omega, by omega, ?_⟩
  refine (show FP K F0 H0 F Γ b c r N (.nx _) from q4) σ F3 _ (fun j => if j = i then [l] else fps j) (x2.f.trans x3.f) (rel3.mut hi' hv st hlm ⟨l, _, [], rfl, upd_same, (((fz.take _).append fz2).append (fz.drop _)).al, rfl⟩ (by simp) (fun a ha => ?_) fun jj a hjj ha hz => ?_)
  · have e : a = l := by simpa using ha
    subst e
    exact rel3.ow i a hlm
  · have e : a = l := by simpa using hz
    subst e
    exact hjj (rel3.dj jj i a ha hlm)
/-- x[a:c] = y, y an own list of its own -/
theorem ds_setSlV (i j : Nat) {x y : Str} (U : Uni K E k X) (hl : DO K E X Γ lo tl gl) (hh : DO K E X Γ hi th gh) (hij : j ≠ i := by decide) (hj : Γ[j]? = some (.ow .fr) := by rfl) (hi' : Γ[i]? = some (.ow .fr) := by rfl) (hNj : X.N[j]? = some y := by rfl) (hN : X.N[i]? = some x := by rfl)
    (hvj : Vis X.env.scope y := by first | exact Or.inl rfl | exact Or.inr (Or.inl rfl) | exact Or.inr (Or.inr rfl)) (hv : Vis X.env.scope x := by first | exact Or.inl rfl | exact Or.inr (Or.inl rfl) | exact Or.inr (Or.inr rfl))
    (hdj : (y == ("__debug__" : Str)) = false := by decide) (hcdj : (y == ("__classdict__" : Str)) = false := by decide) (hd : (x == ("__debug__" : Str)) = false := by decide) (hcd : (x == ("__classdict__" : Str)) = false := by decide)
    (pg : PE X (.Name x p1) (tVar i) → PO X lo tl → PO X hi th → PG X (.Subscript (.Name x p1) (.Slice lo hi none p3) p2) (gSlc (tVar i) tl th) := by exact fun h1 h2 h3 => pg_slc h1 h2 h3)
    {p4 : Pos} (ps : PE X (.Name y p4) (tVar j) → PG X (.Subscript (.Name x p1) (.Slice lo hi none p3) p2) (gSlc (tVar i) tl th) → PS X (.Assign [.Subscript (.Name x p1) (.Slice lo hi none p3) p2] (.Name y p4) pos) (tAsg (tVar j) (gSlc (tVar i) tl th)) := by exact fun h1 h2 => ps_asg h1 h2) :
    DS K E X Γ (.Assign [.Subscript (.Name x p1) (.Slice lo hi none p3) p2] (.Name y p4) pos) (tAsg (tVar j) (gSlc (tVar i) tl th)) Γ b c r (gSetSl i (gv j) gl gh) := ⟨ps (pe_var hNj hvj hdj hcdj) (pg (pe_var hN hv hd hcd) hl.po hh.po), ss_setSlV hij hj hi' hl hh⟩
end
end DL
/-! DLtr: try around any call (a def by its name, or held by a local name); own things handed over for good. -/
namespace DL
open PySem L2
variable [Tbs]
/-- no exception -/
abbrev noE : XK := fun _ _ _ => False
/-- a call that may raise, in a try -/
structure DCx (K : PySem.W.Frag) (X : Cx) (Γ : List M) (e : Expr) (t : (St → XK) → TE) (m : M) (g : List D → R D) : Prop where
  pe : ∀ (W : WX) (pn : List (Addr × Obj)) (xe : Value → Shared → Prop), Takes (X.tr pn xe) W → PassesOwn (model X.prog X.w) X.A X.env xe → PE (X.tr pn xe) e (t (WE W))
  se : ∀ (E : St → XK) F0 H0 ρ σ F H fps Q, Rel K F0 H0 Γ ρ σ F H fps → RP (g ρ) (fun d => VP K H0 F H m d Q) (XP K (E σ) F H) → t E σ H Q
/-- a statement that may raise, in a try -/
structure DBx (K : PySem.W.Frag) (X : Cx) (Γ : List M) (s : Stmt) (t : (St → XK) → TS) (b c : List M) (r : M) (g : List D → R Fl) : Prop where
  ps : ∀ (W : WX) (pn : List (Addr × Obj)) (xe : Value → Shared → Prop), Takes (X.tr pn xe) W → PassesOwn (model X.prog X.w) X.A X.env xe → PSs (X.tr pn xe) [s] (t (WE W))
  ss : ∀ (E : St → XK) F0 H0 ρ σ F H fps N, Rel K F0 H0 Γ ρ σ F H fps → RP (g ρ) (FP K F0 H0 F Γ b c r N) (XP K (E σ) F H) → t E N σ H
section
variable {K : PySem.W.Frag} {E : XK} {X : Cx} {Γ b c : List M} {r m mr : M} {ms : List M} {k kf j i y : Nat} {s : Stmt} {pos p px pn ph : Pos} {e : Expr} {es : List Expr} {tr : TA} {f : List D → R D} {gr : List D → R (List D)} {x fx cx nx : Str} {tab : List (Addr × (List D → R D))}
def gCallN (f : List D → R D) (gr : List D → R (List D)) : List D → R D := fun ρ => noX (gr ρ) >>= f
theorem args_se {Q : VK} {F0 H0 F H : Hp} {ρ : List D} {σ : St} {fps : Nat → List Addr} {E : St → XK} (ha : SA K noE Γ tr ms gr) (hr : mr.fz = true) (hm : ∀ m ∈ ms, m = .fr ∨ m = .pk) (rel : Rel K F0 H0 Γ ρ σ F H fps)
    (q : RP (gCallN f gr ρ) (fun d => VP K H0 F H mr d Q) (XP K (E σ) F H)) : tr σ H fun vs H1 => spD K ms mr f vs H1 Q (E σ) := by
  refine ha F0 H0 ρ σ F H fps _ rel ((RP.noX (RP.bind q)).imp (fun ds hd vs F' H' x rv => ?_) fun _ z => z)
  exact ⟨F', ds, x.fh, x.tb rel.tb, rv.base hm, hd.imp (fun d hd => VP.base hr (VP.on hd x)) fun _ z => z.on x⟩
/-- f(e, ..) -/
theorem dcx_call (U : Uni K E k X) (F : FnD X.prog X.w K X.mg X.base kf fx ms mr f) (ha : ∀ pn xe, DA K noE (X.tr pn xe) Γ (e :: es) tr ms gr) (hk : kf ≤ k := by decide) (hr : mr.fz = true := by rfl) (hm : ∀ m ∈ ms, m = .fr ∨ m = .pk := by simp) (hg : Gl X fx := by rfl)
    (hdb : (fx == ("__debug__" : Str)) = false := by decide) (he : starEach (e :: es) X.env = (false, eval e X.env) :: starEach es X.env := by rfl) (hpl : (backTo pos (starEach es X.env)).any (·.1) = false := by rfl) :
    DCx K X Γ (.Call (.Name fx p) (e :: es) [] pos) (fun E => tCallS (spD K ms mr f) E tr) mr (gCallN f gr) := by
  have e0 := U.K
  subst e0
  obtain ⟨a, fd, ps, F1, F2, F3, F4⟩ := F
  exact ⟨fun W pn xe tk po => pe_callS (X := X.tr pn xe) (F1.mono hk) U.room hg F2 F3 F4 (fun σ => passAt tk σ) (ha pn xe).pa hdb he hpl, fun E F0 H0 ρ σ F H fps Q rel q => args_se (ha [] fun _ _ => False).sa hr hm rel q⟩
def tCallWS (i : Nat) (K : PySem.W.Frag) (ms : List M) (mr : M) (tab : List (Addr × (List D → R D))) (E : St → XK) (t : TA) : TE := fun σ H Q => ∃ q ∈ tab, σ[i]? = some (some (.ref q.1)) ∧ t σ H fun vs H1 => spD K ms mr q.2 vs H1 Q (E σ)
def gCallVN (i : Nat) (tab : List (Addr × (List D → R D))) (gr : List D → R (List D)) : List D → R D := fun ρ => match ρ.getD i .non with
  | .cl a => (match tab.lookup a with
    | some f => gCallN f gr ρ
    | none => .bad)
  | _ => .bad
/-- x(e, ..), x a local name that holds one of the defs of the table -/
theorem dcx_callV (i : Nat) (U : Uni K E k X) (hT : ∀ q ∈ tab, FnA X.prog X.w K X.mg X.base j q.1 ms mr q.2) (ha : ∀ pn xe, DA K noE (X.tr pn xe) Γ (e :: es) tr ms gr) (hi : Γ[i]? = some .fr := by rfl) (hj : j ≤ k := by decide) (hr : mr.fz = true := by rfl) (hm : ∀ m ∈ ms, m = .fr ∨ m = .pk := by simp)
    (hN : X.N[i]? = some x := by rfl) (hv : Vis X.env.scope x := by first | exact Or.inl rfl | exact Or.inr (Or.inl rfl) | exact Or.inr (Or.inr rfl)) (hd : (x == ("__debug__" : Str)) = false := by decide) (hcd : (x == ("__classdict__" : Str)) = false := by decide)
    (he : starEach (e :: es) X.env = (false, eval e X.env) :: starEach es X.env := by rfl) (hpl : (backTo pos (starEach es X.env)).any (·.1) = false := by rfl) :
    DCx K X Γ (.Call (.Name x p) (e :: es) [] pos) (fun E => tCallWS i K ms mr tab E tr) mr (gCallVN i tab gr) := by
  have e0 := U.K
  subst e0
  refine ⟨fun W pn xe tk po => ⟨fun pins s σ H Q I h => ?_⟩, fun E F0 H0 ρ σ F H fps Q rel q => ?_⟩
  · obtain ⟨q, hq, hs, ht⟩ := h
    obtain ⟨fd, ps, F, kp, b⟩ := hT q hq
    refine wpAny_Call_Name_kw (thn ((pe_var (X := X.tr pn xe) (pos := p) hN hv hd hcd).run pins s σ H (fun v H1 => v = .ref q.1 ∧ H1 = H) I ⟨.ref q.1, hs, rfl, rfl⟩) fun u s1 ⟨v, H1, I1, r1, q1⟩ => ?_)
    obtain ⟨rfl, rfl⟩ := q1
    cases r1
    refine PySem.W.callWith_K (h₀ := X.base) I1.ok.mod.kin kp (thn ((ha pn xe).pa.run pos pins s1 σ _ _ I1 ht) fun us s2 ⟨vs, H2, I2, r, q⟩ => ⟨I2.kIn, ?_⟩) he hpl
    exact run_fnS (X := X.tr pn xe) (F.mono hj) U.room b (passAt tk σ) I2 r q
  · obtain ⟨v, hv, st, rv⟩ := rel.get hi (fun z => nomatch z)
    unfold gCallVN at q
    cases hd : ρ.getD i .non with
    | cl a =>
      rw [hd] at q rv
      have hva : v = .ref a := by
        have := rv.1
        cases this
        rfl
      subst hva
      cases hl : tab.lookup a with
      | some f =>
        simp only [hl] at q
        exact ⟨(a, f), lookup_memF hl, hv, args_se (ha [] fun _ _ => False).sa hr hm rel q⟩
      | none => simp only [hl] at q; exact (show False from q).elim
    | _ => rw [hd] at q; exact (show False from q).elim
/-- x = a call -/
theorem dbx_set (j : Nat) {t : (St → XK) → TE} {g : List D → R D} (U : Uni K E k X) (h : DCx K X Γ e t .fr g) (hj : Γ[j]? = some .fr := by rfl) (hN : X.N[j]? = some x := by rfl) (hl : Loc X.env.scope x := by first | exact Or.inl rfl | exact Or.inr rfl)
    (hs : swapsWith e (some (.Name x px)) pos.line X.env = pure false := by rfl) (hf : X.fn x = true ∨ X.env.scope.names.lookup x = some .local := by first | exact .inl rfl | exact .inr rfl) :
    DBx K X Γ (.Assign [.Name x px] e pos) (fun E => tAsg (t E) (gName j)) b c r (gSet j g) := by
  refine ⟨fun W pn xe tk po => pss_one (ps_set (X := X.tr pn xe) U.nd hN hl (h.pe W pn xe tk po) hs hf), fun E F0 H0 ρ σ F H fps N rel q => ?_⟩
  refine h.se E F0 H0 ρ σ F H fps _ rel ((RP.bind q).imp (fun d hd w F2 H2 fpw x2 rvw fw => ?_) fun _ z => z)
  have := rel.store (m := .fr) x2 (by have := (List.getElem?_eq_some_iff.mp hj).1; exact this) rfl ⟨rvw.1, rfl⟩ Fresh.nil
  rw [set_self hj] at this
  exact hd _ F2 H2 _ x2.f this
/-- a call alone -/
theorem dbx_expr {t : (St → XK) → TE} {g : List D → R D} (h : DCx K X Γ e t m g) (hs : swapsWith e none pos.line X.env = pure false := by rfl) : DBx K X Γ (.Expr e pos) (fun E => tDrop (t E)) b c r (gDrop g) :=
  ⟨fun W pn xe tk po => pss_one (ps_expr (X := X.tr pn xe) (h.pe W pn xe tk po) hs), fun E F0 H0 ρ σ F H fps N rel q => h.se E F0 H0 ρ σ F H fps _ rel ((RP.bind q).imp (fun d hd v F' H' fp x rv f => hd σ F' H' fps x.f (rel.ext x)) fun _ z => z)⟩
def gTryA (y : Nat) (g : List D → R Fl) (tab : List (Addr × D)) : List D → R Fl := fun ρ => match g ρ with
  | .ok fl => .ok fl
  | .exc x => (match x.ds, tab.lookup x.cls with
    | [], some d => .ok (.nx (ρ.set y d))
    | _, _ => .bad)
  | .bad => .bad
/-- try: a call / except C as n: y = .. -/
theorem ds_tryA (y i : Nat) {P : Addr} {es : List Ent} {sts : List Stmt} {st : Stmt} {tb : (St → XK) → TS} {gb : List D → R Fl}
    (U : Uni K E k X) (hb : DBx K X Γ s tb b c r gb) (hP : X.mg cx = some (.ref P)) (hx : ∀ e ∈ es, PySem.W.exmOne K (.ref e.C) (.ref P) = some true) (hh : ∀ e ∈ es, Hnd X i y (st :: sts) e)
    (hy : Γ[y]? = some .fr := by rfl) (hi : Γ[i]? = some .un := by rfl) (hyi : y ≠ i := by decide) (hNi : X.N[i]? = some nx := by rfl) (hln : X.env.kindOf nx = some .local := by rfl)
    (hs : X.stack = X.env :: X.outer := by rfl) (hf : X.env.frame = some X.env.locals := by rfl) (hgc : Gl X cx := by rfl) (hdc : (cx == ("__debug__" : Str)) = false := by decide) :
    DS K E X Γ (.Try [s] [.ExceptHandler (some (.Name cx pn)) (some nx) (st :: sts) ph] [] [] pos)
      (fun D σ H => tb (WE (wAs K (.ref P) i (fun a cls d => fun D σ H => ∃ e ∈ es, cls = .ref e.C ∧ d = none ∧ e.ts a D σ H) (fun cls d _ H => E cls d H) D)) D σ H) Γ b c r (gTryA y gb (tabOf es)) := by
  have e0 := U.K
  subst e0
  refine ⟨ps_try_as (tb := fun W => tb (WE W)) (ts := fun a cls d => fun D σ H => ∃ e ∈ es, cls = .ref e.C ∧ d = none ∧ e.ts a D σ H) (Wout := fun cls d _ H => E cls d H) hs hf U.nd hNi hln ⟨hgc, hdc, .inl hP⟩ U.tk (fun W pn xe tk po => hb.ps W pn xe tk po) (fun a oe cls d pn hz hf2 => ?_), fun F0 H0 ρ σ F H fps N rel q => ?_⟩
  · refine ⟨fun pins s σ H D I h => ?_⟩
    obtain ⟨e, hm, e1, e2, q⟩ := h
    subst e1 e2
    exact ((hh e hm).ps a oe pn hz hf2).run pins s σ H D I q
  · refine hb.ss _ F0 H0 ρ σ F H fps _ rel ?_
    unfold gTryA at q
    cases hfr : gb ρ with
    | ok fl =>
      rw [hfr] at q
      exact q
    | exc x =>
      rw [hfr] at q
      intro F' H' dx ext eok
      obtain ⟨xc, xd⟩ := x
      cases xd with
      | cons z zs => exact (show False from q).elim
      | nil =>
        cases hl : (tabOf es).lookup xc with
        | none => simp only [hl] at q; exact (show False from q).elim
        | some d =>
          simp only [hl] at q
          obtain ⟨e, hem, ee⟩ := List.mem_map.mp (lookup_mem hl)
          obtain ⟨rfl, rfl⟩ : e.C = xc ∧ e.d = d := by cases ee; exact ⟨rfl, rfl⟩
          have hdx : dx = none := by
            rcases eok with ⟨h, _⟩ | ⟨h, _⟩
            · exact h
            · exact absurd rfl h
          subst hdx
          refine ⟨true, hx e hem, fun _ a ha => ⟨e, hem, rfl, rfl, ?_⟩, fun z => nomatch z⟩
          have rel1 := (rel.ext ext).free (i := i) (z := some (.ref a)) hi
          have hil : i < σ.length := by have := (List.getElem?_eq_some_iff.mp hi).1; rw [rel.lg] at this; exact this
          refine (hh e hem).rd a _ _ F' H' rel1.fh (by rw [List.getElem?_set_self hil]) fun w F2 H2 x2 fz => ?_
          have rel2 := rel1.store (m := .fr) x2 (by have := (List.getElem?_eq_some_iff.mp hy).1; exact this) rfl ⟨fz, rfl⟩ Fresh.nil
          rw [set_self hy] at rel2
          exact (show FP X.K F0 H0 F Γ b c r N (.nx (ρ.set y e.d)) from q) _ F2 H2 _ (ext.f.trans x2.f) (rel2.free (i := i) (z := none) hi)
    | bad => rw [hfr] at q; exact q
def gTryO (y : Nat) (d : D) (g : List D → R Fl) (cs : List Addr) : List D → R Fl := fun ρ => match g ρ with
  | .ok fl => .ok fl
  | .exc x => if x.cls ∈ cs then .ok (.nx (ρ.set y d)) else .bad
  | .bad => .bad
/-- try: a call / except C: y = None -/
theorem ds_tryN (y : Nat) {P : Addr} {cs : List Addr} {yn : Str} {j : Nat} {tb : (St → XK) → TS} {gb : List D → R Fl} {p2 p3 p4 : Pos}
    (U : Uni K E k X) (hb : DBx K X Γ s tb b c r gb) (hP : X.mg cx = some (.ref P)) (hx : ∀ C ∈ cs, PySem.W.exmOne K (.ref C) (.ref P) = some true)
    (hy : Γ[y]? = some .fr := by rfl) (hNy : X.N[y]? = some yn := by rfl) (hly : Loc X.env.scope yn := by first | exact Or.inl rfl | exact Or.inr rfl) (hfn : X.fn yn = true ∨ X.env.scope.names.lookup yn = some .local := by first | exact .inl rfl | exact .inr rfl)
    (hsw : swapsWith (.Constant .none j p3) (some (.Name yn p2)) p4.line X.env = pure false := by rfl)
    (hs : X.stack = X.env :: X.outer := by rfl) (hf : X.env.frame = some X.env.locals := by rfl) (hgc : Gl X cx := by rfl) (hdc : (cx == ("__debug__" : Str)) = false := by decide) :
    DS K E X Γ (.Try [s] [.ExceptHandler (some (.Name cx pn)) none [.Assign [.Name yn p2] (.Constant .none j p3) p4] ph] [] [] pos)
      (fun D σ H => tb (WE (wOnly K (.ref P) (fun _ _ _ => tAsg (tC .non) (gName y)) (fun cls d _ H => E cls d H) D)) D σ H) Γ b c r (gTryO y .non gb cs) := by
  have e0 := U.K
  subst e0
  refine ⟨ps_try_only (tb := fun W => tb (WE W)) (ts := fun _ _ _ => tAsg (tC .non) (gName y)) (Wout := fun cls d _ H => E cls d H) hs hf ⟨hgc, hdc, .inl hP⟩ U.tk (fun W pn xe tk po => hb.ps W pn xe tk po) (fun a oe cls d pn hz hf2 => ?_), fun F0 H0 ρ σ F H fps N rel q => ?_⟩
  · exact pss_one (ps_set (X := X.suite a ((a, oe) :: pn)) U.nd hNy hly pe_non hsw hfn)
  · refine hb.ss _ F0 H0 ρ σ F H fps _ rel ?_
    unfold gTryO at q
    cases hfr : gb ρ with
    | ok fl =>
      rw [hfr] at q
      exact q
    | exc x =>
      rw [hfr] at q
      intro F' H' dx ext eok
      obtain ⟨xc, xd⟩ := x
      by_cases hm : xc ∈ cs
      · have q2 : FP X.K F0 H0 F Γ b c r N (.nx (ρ.set y .non)) := by
          have := q
          simp only [hm, if_true] at this
          exact this
        refine ⟨true, hx xc hm, fun _ a ha => ?_, fun z => nomatch z⟩
        have rel1 := rel.ext ext
        have rel2 := rel1.store (m := .fr) (v := .non) (d := .non) (Ext.refl rel1.fh) (by have := (List.getElem?_eq_some_iff.mp hy).1; exact this) rfl ⟨.non, rfl⟩ Fresh.nil
        rw [set_self hy] at rel2
        exact q2 _ F' H' _ ext.f rel2
      · simp only [hm, if_false] at q
        exact (show False from q).elim
    | bad => rw [hfr] at q; exact q
end
/-! defs stand apart: their names are other ones -/
def nmIn (K : PySem.W.Frag) (p : Addr) : Str := match K.lookup p with
  | some ⟨_, _, .func fd, _⟩ => fd.name
  | _ => ""
omit [Tbs] in
theorem nmIn_of {K : PySem.W.Frag} {p : Addr} {oc : Value} {od : Option Addr} {fd : FuncData} {sl : Array (Option Value)} (l : K.lookup p = some ⟨oc, od, .func fd, sl⟩) : nmIn K p = fd.name := by
  unfold nmIn
  rw [l]
end DL
/-! DLcs: defs that are handed own things for good: they may change them and bind their names anew. -/
namespace DL
open PySem L2
variable [Tbs]
def spC (K : PySem.W.Frag) (ms : List M) (mr : M) (f : List D → R D) : Sp := fun vs H Q E => ∃ F H0 ds fps, Same F H ∧ Same H0 H ∧ TbsOk H ∧ RvO K H0 F H ms vs ds fps ∧ fps.flatten.Nodup ∧ (∀ a ∈ fps.flatten, F a = none ∧ H0 a = none) ∧
  RP (f ds) (fun d => ∀ v F' H' fp, Ext F H0 F' H' → Rv K H0 F' H' mr v d fp → Fresh H0 F' fp → Q v H') (XP K E F H0)
/-- the def x of the module keeps that promise -/
def FnCs (P : Program) (w : World) (K : PySem.W.Frag) (mg : Str → Option Value) (base : Heap) (k : Nat) (x : Str) (ms : List M) (mr : M) (f : List D → R D) : Prop :=
  ∃ a fd ps, FnOk P w K mg base (L2.CX P w) k a fd ps (spC K ms mr f) ∧ mg x = some (.ref a) ∧ PySem.W.keepIn K (.ref a) = true ∧ Binds K fd ps []
def startC (n : Nat) (ms : List M) : List M := ms ++ List.replicate (n - ms.length) .un
omit [Tbs] in
theorem RvO.soC {K : PySem.W.Frag} {H0 F H : Hp} {ms : List M} {vs : List V} {ds : List D} {fps : List (List Addr)} (h : RvO K H0 F H ms vs ds fps) (hk : ∀ m ∈ ms, okO m = true) (k : Nat) : ∀ i,
    So K H0 F H ((ms ++ List.replicate k M.un).getD i M.un) ((vs.map some ++ List.replicate k Option.none).getD i Option.none) ((ds ++ List.replicate k D.non).getD i D.non) (fps.getD i []) := by
  induction h with
  | nil =>
    intro i
    refine .inl ⟨?_, rfl⟩
    rw [List.nil_append, List.getD_eq_getElem?_getD, List.getElem?_replicate]
    split <;> rfl
  | @cons m ms v d fp vs ds fps h _ ih =>
    have ok := hk m List.mem_cons_self
    have ih := ih fun m' h' => hk m' (List.mem_cons_of_mem _ h')
    intro i
    cases i with
    | zero =>
      have st : m.st = true := by
        cases m with
        | fr => rfl
        | bo => rfl
        | ow m => exact ok
        | _ => cases ok
      exact .inr ⟨v, rfl, st, h⟩
    | succ i => exact ih i
omit [Tbs] in
theorem Rel.startC [Tbs] {K : PySem.W.Frag} {H0 F H : Hp} {ms : List M} {vs : List V} {ds : List D} {fps : List (List Addr)} {N : List Str} (e : Same F H) (e0 : Same H0 H) (tb : TbsOk H) (h : RvO K H0 F H ms vs ds fps) (nd : fps.flatten.Nodup) (un : ∀ a ∈ fps.flatten, F a = none ∧ H0 a = none) (hk : ∀ m ∈ ms, okO m = true) (hn : ms.length ≤ N.length) :
    Rel K F H0 (startC N.length ms) (startR N.length ds) (L2.start N vs) F H (fun i => fps.getD i []) := by
  obtain ⟨l1, l2⟩ := h.lens
  unfold DL.startC startR L2.start
  refine ⟨e, Same.refl _, e0, tb, fun a o q => .inl q, ?_, ?_, fun i => ?_, fun i => flat_nd nd i, fun i j a ha hb => flat_dj nd ha hb, fun i a ha => un a (flat_in ha)⟩
  · simp only [List.length_append, List.length_map, List.length_replicate]; omega
  · simp only [List.length_append, List.length_map, List.length_replicate]; omega
  · rw [l1, l2]
    exact h.soC hk (N.length - ms.length) i
theorem fn_bodyS {P : Program} {w : World} {K : PySem.W.Frag} {mg : Str → Option Value} {base : Heap} {x qual : Str} {st : Stmt} {a : Addr} {fd : FuncData} {N ps : List Str} {k : Nat} {ms : List M} {mr : M} {n b c : List M} {f : List D → R D} (g : List D → R Fl)
    (hf : f = runF N.length g) (B : Bn mg) (F : Fun K x qual st a fd) (S : FnScope N ps (defScope st)) (hl : ms.length = ps.length) (hr : mr.fz = true) (hk : ∀ m ∈ ms, okO m = true)
    (body : ∀ (cdv : Value) (A : Around) (outer : List Env) (s : Shared) (H : Hp) (E : XK), Uni K E k (cxOf (L2.CX P w) P w K mg base N qual (defScope st) a cdv A outer s H E) →
      ∃ t, DSs K E (cxOf (L2.CX P w) P w K mg base N qual (defScope st) a cdv A outer s H E) (startC N.length ms) (defBody st) t n b c mr g) :
    FnOk P w K mg base (L2.CX P w) (k + 1) a fd ps (spC K ms mr f) := by
  subst hf
  refine F.okX S (fun vs H Q E ⟨F, H0, ds, fps, _, _, _, h, _⟩ => by rw [h.lens.1, hl]) fun cdv A outer s H vs Q E hr1 ⟨F, H0, ds, fps, eF, e0, tb, h, nd, un, q⟩ => ?_
  have tk := takes_of (X := cxOf (L2.CX P w) P w K mg base N qual (defScope st) a cdv A outer s H E) (E := E) rfl rfl rfl rfl
  have U : Uni K E k (cxOf (L2.CX P w) P w K mg base N qual (defScope st) a cdv A outer s H E) := ⟨rfl, S.nd, rfl, hr1, hr1.units, passes_of rfl, passes_call tk fun _ _ _ _ h => h, tk, B⟩
  obtain ⟨t, hb⟩ := body cdv A outer s H E U
  refine ⟨t, hb.ps, hb.ss F H0 _ _ F H _ _ (Rel.startC eF e0 tb h nd un hk ?_) ((RP.bind q).imp (fun fl hf => ?_) fun _ z => z)⟩
  · rw [hl]
    have e := congrArg List.length S.pre
    rw [List.length_take] at e
    omega
  · cases fl with
    | nx ρ =>
      intro σ' F' H' fps' s rel
      refine (show ∀ v F' H' fp, Ext F H0 F' H' → Rv K H0 F' H' mr v .non fp → Fresh H0 F' fp → Q v H' from hf) .non F' H' [] rel.x0 ?_ Fresh.nil
      cases mr with
      | fr => exact ⟨.non, rfl⟩
      | ow m => exact ⟨.non, rfl⟩
      | _ => cases hr
    | rt d => exact fun v F' H' fp x rv fr => (show ∀ v F' H' fp, Ext F H0 F' H' → Rv K H0 F' H' mr v d fp → Fresh H0 F' fp → Q v H' from hf) v F' H' fp x (rv.to hr) fr
    | bk ρ => exact (show False from hf).elim
    | ct ρ => exact (show False from hf).elim
/-! arguments: frozen ones by any expression, own ones by their slots -/
def SAo (K : PySem.W.Frag) (E : XK) (Γ : List M) (t : TA) (ms : List M) (js : List Nat) (g : List D → R (List D)) : Prop :=
  ∀ F0 H0 ρ σ F H fps Q, Rel K F0 H0 Γ ρ σ F H fps → RP (g ρ) (fun ds => ∀ vs F' H' fl, Ext F H F' H' → RvO K H0 F' H' ms vs ds fl → fl.flatten = (js.map fps).flatten → Q vs H') (XP K E F H) → t σ H Q
structure DAo (K : PySem.W.Frag) (E : XK) (X : Cx) (Γ : List M) (es : List Expr) (t : TA) (ms : List M) (js : List Nat) (g : List D → R (List D)) : Prop where
  pa : PA X es t
  sa : SAo K E Γ t ms js g
section
variable {K : PySem.W.Frag} {E : XK} {X : Cx} {Γ n b c : List M} {m mr : M} {ms : List M} {k kf i : Nat} {js : List Nat} {pos p pos' : Pos} {e : Expr} {es : List Expr} {te : TE} {tr : TA} {f : List D → R D} {g : List D → R D} {gr : List D → R (List D)} {x : Str}
omit [Tbs] in
theorem RvO.grow {H0 F F' H H' : Hp} (eF : Same F F') (eH : Same H H') {ms : List M} {vs : List V} {ds : List D} {fps : List (List Addr)} (h : RvO K H0 F H ms vs ds fps) : RvO K H0 F' H' ms vs ds fps := by
  induction h with
  | nil => exact .nil
  | cons h _ ih => exact .cons (h.grow eF eH) ih
theorem dao_nil : DAo K E X Γ [] tNil [] [] gsN := ⟨pa_nil, fun F0 H0 ρ σ F H fps Q rel q => q [] F H [] (Ext.refl rel.fh) .nil rfl⟩
theorem dao_e (h : DE K E X Γ e te .fr g) (h2 : DAo K E X Γ es tr ms js gr) (he : starEach (e :: es) X.env = (false, eval e X.env) :: starEach es X.env := by rfl) : DAo K E X Γ (e :: es) (tCons te tr) (.fr :: ms) js (gsC g gr) := by
  refine ⟨pa_cons h.pe h2.pa he, fun F0 H0 ρ σ F H fps Q rel q => ?_⟩
  refine h.se F0 H0 ρ σ F H fps _ rel ((RP.bind q).imp (fun d hd v F1 H1 fp x rv fr => ?_) fun _ z => z)
  refine h2.sa F0 H0 ρ σ F1 H1 fps _ (rel.ext x) ((RP.bind hd).imp (fun ds hd2 vs F2 H2 fl x2 rv2 fe => ?_) fun _ z => z.on x)
  exact hd2 (v :: vs) F2 H2 ([] :: fl) (x.trans x2) (.cons (by obtain ⟨r1, r2⟩ := rv; exact ⟨r1.mono x2.f, rfl⟩) rv2) (by rw [List.flatten_cons, List.nil_append, fe])
theorem dao_v (i : Nat) (h2 : DAo K E X Γ es tr ms js gr) (hi : Γ[i]? = some (.ow m) := by rfl) (hN : X.N[i]? = some x := by rfl) (hv : Vis X.env.scope x := by first | exact Or.inl rfl | exact Or.inr (Or.inl rfl) | exact Or.inr (Or.inr rfl))
    (hd : (x == ("__debug__" : Str)) = false := by decide) (hcd : (x == ("__classdict__" : Str)) = false := by decide) (he : starEach ((.Name x p) :: es) X.env = (false, eval (.Name x p) X.env) :: starEach es X.env := by rfl) :
    DAo K E X Γ (.Name x p :: es) (tCons (tVar i) tr) (.ow m :: ms) (i :: js) (gsC (gv i) gr) := by
  refine ⟨pa_cons (pe_var hN hv hd hcd) h2.pa he, fun F0 H0 ρ σ F H fps Q rel q => ?_⟩
  obtain ⟨v, hv, st, rv⟩ := rel.get hi (fun z => nomatch z)
  refine ⟨v, hv, ?_⟩
  refine h2.sa F0 H0 ρ σ F H fps _ rel ((RP.bind (show RP (gr ρ >>= fun xs => R.ok (ρ.getD i .non :: xs)) _ _ from q)).imp (fun ds hd2 vs F2 H2 fl x2 rv2 fe => ?_) fun _ z => z)
  exact hd2 (v :: vs) F2 H2 (fps i :: fl) x2 (.cons (rv.grow x2.f x2.h) rv2) (by rw [List.flatten_cons, List.map_cons, List.flatten_cons, fe])
theorem maps_nd {F0 H0 F H : Hp} {ρ : List D} {σ : St} {fps : Nat → List Addr} (rel : Rel K F0 H0 Γ ρ σ F H fps) : ∀ {js : List Nat}, js.Nodup → (js.map fps).flatten.Nodup
  | [], _ => List.nodup_nil
  | j :: js, h => by
    rw [List.map_cons, List.flatten_cons]
    obtain ⟨h1, h2⟩ := List.nodup_cons.mp h
    refine List.nodup_append.mpr ⟨rel.nd j, maps_nd rel h2, fun a ha b hb e => ?_⟩
    subst e
    obtain ⟨l, hl, hal⟩ := List.mem_flatten.mp hb
    obtain ⟨i, hi, rfl⟩ := List.mem_map.mp hl
    exact h1 (rel.dj j i a ha hal ▸ hi)
/-- return f(e, ..), own things handed over -/
theorem ds_retC (U : Uni K E k X) (F : FnCs X.prog X.w K X.mg X.base kf x ms mr f) (ha : DAo K E X Γ (e :: es) tr ms js gr) (hj : kf ≤ k := by decide) (nd : js.Nodup := by decide) (hg : Gl X x := by rfl)
    (hdb : (x == ("__debug__" : Str)) = false := by decide) (he : starEach (e :: es) X.env = (false, eval e X.env) :: starEach es X.env := by rfl) (hpl : (backTo pos (starEach es X.env)).any (·.1) = false := by rfl) :
    DS K E X Γ (.Return (some (.Call (.Name x p) (e :: es) [] pos)) pos') (tRet (tCall (spC K ms mr f) [] E tr)) n b c mr (gRet (gAll f gr)) := by
  have e0 := U.K
  subst e0
  obtain ⟨a, fd, ps, F1, F2, F3, F4⟩ := F
  refine ⟨ps_ret (pe_call (F1.mono hj) U.room hg F2 F3 F4 .nil U.pass ha.pa hdb he hpl), fun F0 H0 ρ σ F H fps N rel q => ?_⟩
  refine ha.sa F0 H0 ρ σ F H fps _ rel ((RP.bind (RP.bind q)).imp (fun ds hd vs F1 H1 fl x rv fe => ?_) fun _ z => z.on rel.x0)
  have rel1 := rel.ext x
  have up : ∀ {F2 H2 : Hp}, Ext F1 H0 F2 H2 → Ext F0 H0 F2 H2 := fun {F2 H2} x2 => ⟨rel1.f0.trans x2.f, x2.h, x2.fh, fun a o q => by
    rcases x2.new a o q with z | z
    · exact rel1.new a o z
    · exact .inr z, x2.tb⟩
  rw [List.append_nil]
  refine ⟨F1, H0, ds, fl, x.fh, rel1.h0, rel1.tb, rv, by rw [fe]; exact maps_nd rel nd, fun a ha => ?_, hd.imp (fun d hd v F2 H2 fp x2 rv2 fr => ?_) fun ex z F2 H2 dx x2 ok => z F2 H2 dx (up x2) ok⟩
  · rw [fe] at ha
    obtain ⟨l, hl, hal⟩ := List.mem_flatten.mp ha
    obtain ⟨i, hi, rfl⟩ := List.mem_map.mp hl
    exact rel1.ow i a hal
  · exact hd v F2 H2 fp (up x2) (.of rv2) fr
end
end DL
/-! DLor: more of what a suite asks of the error. -/
namespace DL
open PySem PySem.Spec PyProof.Rows L2 HT
variable [Tbs]
section
variable {X : Cx} {i y : Nat} {C : Addr} {e a b : Expr} {t t1 t2 : Addr → TE} {b0 b1 b2 : Bool} {p2 pos : Pos} {yn : Str}
/-- isinstance(e, c) or isinstance(e, d) -/
theorem at1_or (h1 : At1 X i C a t1 b1) (h2 : At1 X i C b t2 b2) : At1 X i C (.BoolOp .Or [a, b] pos) (fun q => tOrV (t1 q) (t2 q)) (b1 || b2) :=
  ⟨fun ad oe pn hz hf => L2.pe_or (h1.ps ad oe pn hz hf) (L2.pe_one (h2.ps ad oe pn hz hf)), fun ad σ H Q hs q => h1.rd ad σ H _ hs ⟨b1, rfl, by
    cases b1 with
    | true => rw [if_pos rfl]; exact q
    | false => rw [if_neg Bool.false_ne_true]; exact h2.rd ad σ H Q hs q⟩⟩
/-- the suite: y = isinstance(e, c) -/
theorem hnd_one (h : At1 X i C e t b0) (nd : X.N.Nodup) (hNy : X.N[y]? = some yn := by rfl) (hly : Loc X.env.scope yn := by first | exact Or.inl rfl | exact Or.inr rfl) (hfn : X.fn yn = true ∨ X.env.scope.names.lookup yn = some .local := by first | exact .inl rfl | exact .inr rfl)
    (hsw : swapsWith e (some (.Name yn p2)) pos.line X.env = pure false := by rfl) : Hnd X i y [.Assign [.Name yn p2] e pos] ⟨C, .bl b0, fun a => tAsg (t a) (gName y)⟩ :=
  ⟨fun a oe pn hz hf => pss_one (ps_set (X := X.suite a ((a, oe) :: pn)) nd hNy hly (h.ps a oe pn hz hf) hsw hfn), fun a D σ F H eF hs q => h.rd a σ H _ hs (q (.bl b0) _ _ (Ext.refl eF) (.bl b0))⟩
end
end DL
/-! DLrl: x = f(e.replace("..", ".."), ..) in a def's own block: a token is out where the body begins. -/
namespace L2
open PySem PySem.Spec PyProof.Rows
section
variable {CX : CXT} {X : Cx} {x : Str} {p pos pos' : Pos} {e : Expr} {es : List Expr} {t : TA} {te : TE} {sp : Sp} {k : Nat} {f : Addr} {fd : FuncData} {ps : List Str} {ds : List Value} {dvs : List V} {E : XK}
theorem pet_call (F : FnOk X.prog X.w X.K X.mg X.base CX k f fd ps sp) (hr : Room k X.A) (hg : Gl X x) (hm : X.mg x = some (.ref f)) (hk : PySem.W.keepIn X.K (.ref f) = true) (hb : Binds X.K fd ps ds) (hd : Vals dvs ds) (hx : Passes CX X E)
    (ha : PAT X (e :: es) t) (hdb : (x == ("__debug__" : Str)) = false := by decide) (he : starEach (e :: es) X.env = (false, eval e X.env) :: starEach es X.env := by rfl) (hpl : (backTo pos (starEach es X.env)).any (·.1) = false := by rfl) :
    PET X (.Call (.Name x p) (e :: es) [] pos) (tCall sp dvs E t) := by
  intro pins s σ H Q h0 I h
  refine wpAny_Call_Name_kw (ld_glob I hg hm ?_ hdb)
  refine PySem.W.callWith_K (h₀ := X.base) I.ok.mod.kin hk (thn (ha pos pins s σ H _ h0 I h) fun us s1 ⟨vs, H1, I1, r, q⟩ => ⟨I1.kIn, ?_⟩) he hpl
  exact run_fn F hr hb hd hx I1 r q
theorem pst_set {i : Nat} (hN : X.N.Nodup) (hi : X.N[i]? = some x) (hx : Loc X.env.scope x) (he : PET X e te) (hs : swapsWith e (some (.Name x pos')) pos.line X.env = pure false := by rfl) (hf : X.fn x = true ∨ X.env.scope.names.lookup x = some .local := by first | exact .inl rfl | exact .inr rfl | assumption) :
    PST X (.Assign [.Name x pos'] e pos) (tAsg te (gName i)) := by
  intro pins s σ H D h0 I h
  refine wpAny_Assign_Name (thn (he pins s σ H _ h0 I h) fun v s1 ⟨y, H1, I1, r1, q1⟩ => ?_) hs
  exact store_ok I1 hN hi hx r1 (fun s2 I2 => ⟨_, H1, I2, q1⟩) hf
theorem PAT.of (h : PA X es t) : PAT X es t := fun pos pins s σ H Q _ I q => h.run pos pins s σ H Q I q
end
end L2
namespace DL
open PySem L2
variable [Tbs]
structure DET (K : PySem.W.Frag) (E : XK) (X : Cx) (Γ : List M) (e : Expr) (t : TE) (m : M) (g : List D → R D) : Prop where
  pe : PET X e t
  se : SE K E Γ t m g
structure DAT (K : PySem.W.Frag) (E : XK) (X : Cx) (Γ : List M) (es : List Expr) (t : TA) (ms : List M) (g : List D → R (List D)) : Prop where
  pa : PAT X es t
  sa : SA K E Γ t ms g
structure DST (K : PySem.W.Frag) (E : XK) (X : Cx) (Γ : List M) (s : Stmt) (t : TS) (n b c : List M) (r : M) (g : List D → R Fl) : Prop where
  ps : PST X s t
  ss : SS K E Γ n b c r t g
structure DSsT (K : PySem.W.Frag) (E : XK) (X : Cx) (Γ : List M) (s : List Stmt) (t : TS) (n b c : List M) (r : M) (g : List D → R Fl) : Prop where
  ps : PSsT X s t
  ss : SS K E Γ n b c r t g
def dRepl (y z : Str) : D → R D
  | .str x => if x.length + (x.length + 1) * z.length ≤ 16777216 then .ok (.str (Txt.replace x y z)) else .bad
  | _ => .bad
section
variable {K : PySem.W.Frag} {E : XK} {X : Cx} {Γ n n' b c : List M} {r m mr : M} {ms : List M} {st : Stmt} {sts : List Stmt} {e o : Expr} {es : List Expr} {te to : TE} {tr : TA} {t u : TS} {g go : List D → R D} {gr : List D → R (List D)} {gs gs' : List D → R Fl} {f : List D → R D} {x : Str} {y z : Str} {k j : Nat} {p pos pos' apos c0 c1 : Pos} {j0 j1 : Nat}
theorem DSsT.of (h : DSs K E X Γ sts t n b c r gs) : DSsT K E X Γ sts t n b c r gs := ⟨PSsT.of h.ps, h.ss⟩
theorem dsst_cons (h : DS K E X Γ st t n b c r gs) (h2 : DSsT K E X n sts u n' b c r gs') : DSsT K E X Γ (st :: sts) (tSeq t u) n' b c r (gSeq gs gs') := ⟨psst_cons (PST.of h.ps) h2.ps, ss_seq h.ss h2.ss⟩
theorem dsst_consT (h : DST K E X Γ st t n b c r gs) (h2 : DSsT K E X n sts u n' b c r gs') : DSsT K E X Γ (st :: sts) (tSeq t u) n' b c r (gSeq gs gs') := ⟨psst_cons h.ps h2.ps, ss_seq h.ss h2.ss⟩
theorem DAT.of (h : DA K E X Γ es tr ms gr) : DAT K E X Γ es tr ms gr := ⟨PAT.of h.pa, h.sa⟩
theorem dat_p (h : DET K E X Γ e te m g) (h2 : DAT K E X Γ es tr ms gr) (hs : starEach (e :: es) X.env = (false, eval e X.env) :: starEach es X.env := by rfl) : DAT K E X Γ (e :: es) (tCons te tr) (.pk :: ms) (gsC g gr) := ⟨pat_cons h.pe h2.pa hs, sa_cons (fun _ _ _ _ _ _ q => q.2) h.se.pk h2.sa⟩
theorem dat_f (h : DET K E X Γ e te .fr g) (h2 : DAT K E X Γ es tr ms gr) (hs : starEach (e :: es) X.env = (false, eval e X.env) :: starEach es X.env := by rfl) : DAT K E X Γ (e :: es) (tCons te tr) (.fr :: ms) (gsC g gr) := ⟨pat_cons h.pe h2.pa hs, sa_cons (fun _ _ _ _ _ _ q => q.2) h.se h2.sa⟩
/-- o.replace("..", "..") -/
theorem det_repl (y z : Str) (ho : DE K E X Γ o to m go) (hyz : (y == z) = false := by decide)
    (hst : starEach [.Constant (.str y) j0 c0, .Constant (.str z) j1 c1] X.env = [(false, eval (.Constant (.str y) j0 c0) X.env), (false, eval (.Constant (.str z) j1 c1) X.env)] := by rfl)
    (hbase : attributeBase o "replace" X.env (eval o X.env) = eval o X.env := by rfl) (hline : (apos.endLine == pos.line) = true := by rfl) :
    DET K E X Γ (.Call (.Attribute o "replace" apos) [.Constant (.str y) j0 c0, .Constant (.str z) j1 c1] [] pos) (CwR.tReplC to y z) .fr (g1 (dRepl y z) go) :=
  ⟨CwR.pet_replC ho.pe hyz hst hbase hline, fun F0 H0 ρ σ F H fps Q rel q => by
    refine ho.se.pk F0 H0 ρ σ F H fps _ rel ((RP.bind q).imp (fun d q1 v F1 H1 fp x rv f1 => ?_) fun _ z => z)
    cases d with
    | str a =>
      obtain ⟨c, q2⟩ := RP.ite (show RP (if a.length + (a.length + 1) * z.length ≤ 16777216 then R.ok (D.str (Txt.replace a y z)) else R.bad) _ _ from q1)
      exact ⟨a, rv.1.strOf, c, VP.old (VP.on (show VP K H0 F H .fr _ Q from q2) x) x.fh (.str _)⟩
    | _ => exact (show False from q1).elim⟩
theorem det_call (U : Uni K E k X) (F : FnD X.prog X.w K X.mg X.base j x ms mr f) (ha : DAT K E X Γ (e :: es) tr ms gr) (hj : j ≤ k := by decide) (hr : mr.fz = true := by rfl) (hm : ∀ m ∈ ms, m = .fr ∨ m = .pk := by simp) (hg : Gl X x := by rfl)
    (hdb : (x == ("__debug__" : Str)) = false := by decide) (he : starEach (e :: es) X.env = (false, eval e X.env) :: starEach es X.env := by rfl) (hpl : (backTo pos (starEach es X.env)).any (·.1) = false := by rfl) :
    DET K E X Γ (.Call (.Name x p) (e :: es) [] pos) (tCall (spD K ms mr f) [] E tr) mr (gAll f gr) := by
  have e0 := U.K
  subst e0
  obtain ⟨a, fd, ps, F1, F2, F3, F4⟩ := F
  exact ⟨pet_call (F1.mono hj) U.room hg F2 F3 F4 .nil U.pass ha.pa hdb he hpl, se_call ha.sa hr hm⟩
theorem dst_set (i : Nat) {x : Str} {pos' : Pos} (U : Uni K E k X) (h : DET K E X Γ e te m g) (hi : X.N[i]? = some x := by rfl) (hx : Loc X.env.scope x := by first | exact Or.inl rfl | exact Or.inr rfl) (hm : m.st = true := by rfl) (hl : i < Γ.length := by first | decide | simp)
    (hs : swapsWith e (some (.Name x pos')) pos.line X.env = pure false := by rfl) (hf : X.fn x = true ∨ X.env.scope.names.lookup x = some .local := by first | exact .inl rfl | exact .inr rfl) :
    DST K E X Γ (.Assign [.Name x pos'] e pos) (tAsg te (gName i)) (Γ.set i m) b c r (gSet i g) := ⟨pst_set U.nd hi hx h.pe hs hf, ss_set h.se hl hm⟩
end
/-- a def's promise by its body, a token out -/
theorem fn_bodyT {P : Program} {w : World} {K : PySem.W.Frag} {mg : Str → Option Value} {base : Heap} {x qual : Str} {st : Stmt} {a : Addr} {fd : FuncData} {N ps : List Str} {k : Nat} {ms : List M} {mr : M} {n b c : List M} {f : List D → R D} (g : List D → R Fl)
    (hf : f = runF N.length g) (B : Bn mg) (F : Fun K x qual st a fd) (S : FnScope N ps (defScope st)) (hl : ms.length = ps.length) (hr : mr.fz = true) (hnc : ∀ y ∈ (defScope st).names, y.2 ≠ .cell) (hps : 1 ≤ ps.length)
    (body : ∀ (cdv : Value) (A : Around) (outer : List Env) (s : Shared) (H : Hp) (E : XK), Uni K E k (cxOf (L2.CX P w) P w K mg base N qual (defScope st) a cdv A outer s H E) →
      ∃ t, DSsT K E (cxOf (L2.CX P w) P w K mg base N qual (defScope st) a cdv A outer s H E) (startG N.length ms) (defBody st) t n b c mr g) :
    FnOk P w K mg base (L2.CX P w) (k + 1) a fd ps (spD K ms mr f) := by
  subst hf
  obtain ⟨oc, od, kV, doc, pm, an, cdv, ct, osl, rfl, lk, hcd⟩ := F.ex
  refine fn_ofT lk hcd S hnc hps (fun vs H Q E ⟨F, ds, _, _, h, _⟩ => by rw [h.lens.1, hl]) fun A outer s H vs Q E hr1 ⟨F, ds, eF, tb, h, q⟩ => ?_
  have tk := takes_of (X := cxOf (L2.CX P w) P w K mg base N qual (defScope st) a cdv A outer s H E) (E := E) rfl rfl rfl rfl
  have U : Uni K E k (cxOf (L2.CX P w) P w K mg base N qual (defScope st) a cdv A outer s H E) := ⟨rfl, S.nd, rfl, hr1, hr1.units, passes_of rfl, passes_call tk fun _ _ _ _ h => h, tk, B⟩
  obtain ⟨t, hb⟩ := body cdv A outer s H E U
  refine ⟨t, hb.ps, hb.ss F H _ _ F H _ _ (Rel.start eF tb h ?_) ((RP.bind q).imp (fun fl hf => ?_) fun _ z => z)⟩
  · rw [hl]
    have e := congrArg List.length S.pre
    rw [List.length_take] at e
    omega
  · cases fl with
    | nx ρ =>
      intro σ' F' H' fps' s rel
      refine (show VP K H F H mr .non Q from hf) .non F' H' [] rel.x0 ?_ Fresh.nil
      cases mr with
      | fr => exact ⟨.non, rfl⟩
      | ow m => exact ⟨.non, rfl⟩
      | _ => cases hr
    | rt d => exact fun v F' H' fp x rv f => hf v F' H' fp x (rv.to hr) f
    | bk _ => exact (show False from hf).elim
    | ct _ => exact (show False from hf).elim
end DL
namespace LW
open PySem L2 DL
def topS (i : Nat) : Stmt := PySem.Challenge.pw_pointpress_k63_hexed.main.body.getD i (.Pass ⟨0, 0, 0, 0⟩)
/-! hexed -/
abbrev s_hexed : Stmt := topS 7
abbrev N_hexed : List Str := ["data", "lines", "place", "row", "byte"]
theorem sc_hexed : FnScope N_hexed ["data"] (defScope s_hexed) := ⟨rfl, rfl, rfl, by decide +kernel, rfl, by decide +kernel, by decide +kernel⟩
def g_hexed : List D → R Fl :=
  (gSeq (gSet 1 (gAll dLst gsN))
  (gSeq (gFor (gI dRng3 (gsC (gc (.int 0)) (gsC (gAll dLen (gsC (gv 0) gsN)) (gsC (gc (.int 32)) gsN)))) (gtN 2)
  (gSeq (gSet 3 (gLc (gIter (gSl false (gv 0) (goS (gv 2)) (goS (g2 dAdd (gv 2) (gc (.int 32)))))) (gtN 4) gtt (g2 dAdd (g2 dIx (gc (.str (Str.ofString "0123456789abcdef"))) (g2 dDiv (gv 4) (gc (.int 16)))) (g2 dIx (gc (.str (Str.ofString "0123456789abcdef"))) (g2 dMod (gv 4) (gc (.int 16)))))))
  (gApp 1 (g2 dAdd (gJn (gc (.str (Str.ofString ""))) (gv 3)) (gc (.str (Str.ofString "\n")))))))
  (gRet (gJn (gc (.str (Str.ofString ""))) (gv 1)))))
def f_hexed : List D → R D := runF 5 g_hexed
theorem f_hexed_run (d0 : D) : f_hexed [d0] = (g_hexed [d0, .non, .non, .non, .non] >>= finF) := rfl
set_option maxHeartbeats 16000000 in
theorem D_hexed [Tbs] {P : Program} {w : World} {K : PySem.W.Frag} {mg : Str → Option Value} {base : Heap} {a : Addr} {fd : FuncData} (B : Bn mg) (h_FIGURES : Cst K mg "FIGURES" (.str (Str.ofString "0123456789abcdef")) (.str (Str.ofString "0123456789abcdef"))) (h_IN_ROW : Cst K mg "IN_ROW" (.int 32) (.int 32)) (F : Fun K "hexed" "hexed" s_hexed a fd) :
    FnOk P w K mg base (L2.CX P w) 1 a fd ["data"] (spD K [.fr] M.fr f_hexed) := by
  obtain ⟨_, h1_FIGURES, h2_FIGURES, h3_FIGURES⟩ := h_FIGURES
  obtain ⟨_, h1_IN_ROW, h2_IN_ROW, h3_IN_ROW⟩ := h_IN_ROW
  exact fn_body (N := N_hexed) (k := 0) (n := []) (b := []) (c := []) g_hexed rfl B F sc_hexed rfl rfl fun cdv A outer s H E U => ⟨_, (dss_cons (n := [M.fr, (M.ow M.fr), M.un, M.un, M.un]) (ds_set 1 U (de_lst (m := M.fr) du_nil))
  (dss_cons (n := [M.fr, (M.ow M.fr), M.un, M.un, M.un]) (ds_for (Γ := [M.fr, (M.ow M.fr), M.un, M.un, M.un]) U (di_range3 U (da_p de_int (da_p (de_len U (de_v 0)) (da_p (de_glob h1_IN_ROW h2_IN_ROW h3_IN_ROW) da_nil)))) (dg_name 2 U)
  (DSs.post (dss_cons (n := [M.fr, (M.ow M.fr), M.fr, M.fr, M.un]) (DS.post (ds_setLc 3 (own := [("byte", 4)]) (Γ' := [M.fr, (M.ow M.fr), M.fr, M.un, M.fr]) U (di_any U (DE.frz (de_sl U (de_v 0) (do_some (de_v 2)) (do_some (de_add U (de_v 2) (de_glob h1_IN_ROW h2_IN_ROW h3_IN_ROW)))))) (blkOk_by (own := [("byte", 4)]) (N := N_hexed) (sc := defScope s_hexed) (by decide +kernel)) (fun _ _ _ _ _ U => (dg_name 4 U)) (fun _ _ _ _ _ U => dts_nil) (fun _ _ _ _ _ U => (DE.frz (de_add U (de_ix U (de_glob h1_FIGURES h2_FIGURES h3_FIGURES) (de_div (de_v 4) de_int)) (de_ix U (de_glob h1_FIGURES h2_FIGURES h3_FIGURES) (de_mod (de_v 4) de_int)))))) (.frz 3 rfl rfl .refl))
  (dss_one (ds_app 1 U (DE.frz (de_add U (de_join U de_str (de_v 3)) de_str))))) (.un 2 rfl (.un 3 rfl .refl))))
  (dss_one (ds_ret (de_join U de_str (de_vp 1))))))⟩
/-! unhexed -/
abbrev s_unhexed : Stmt := topS 8
abbrev N_unhexed : List Str := ["text", "found", "high", "sign", "place"]
theorem sc_unhexed : FnScope N_unhexed ["text"] (defScope s_unhexed) := ⟨rfl, rfl, rfl, by decide +kernel, rfl, by decide +kernel, by decide +kernel⟩
def g_unhexed (cx : Nat → Addr) : List D → R Fl :=
  (gSeq (gSet 1 (gAll dLst gsN))
  (gSeq (gSet 2 (gc .non))
  (gSeq (gFor (gIter (g1 (dT0 5592405 Txt.lower) (gv 0))) (gtN 3)
  (gSeq (gIte (gAnd (gB (g2 (dInS false) (gv 3) (gc (.str (Str.ofString " \n"))))) (gB (g2 dIsN (gv 2) (gc .non))))
  (fun ρ => .ok (.ct ρ))
  gNx)
  (gSeq (gSet 4 (gT2 dFind (gc (.str (Str.ofString "0123456789abcdef"))) (gv 3)))
  (gSeq (gIte (gB (g2 dLt (gv 4) (gc (.int 0))))
  (gRaise (cx 1))
  gNx)
  (gIte (gB (g2 dIsN (gv 2) (gc .non)))
  (gSet 2 (gv 4))
  (gSeq (gApp 1 (g2 dAdd (g2 dMul (gv 2) (gc (.int 16))) (gv 4)))
  (gSet 2 (gc .non))))))))
  (gSeq (gIte (gB (g2 dNotN (gv 2) (gc .non)))
  (gRaise (cx 1))
  gNx)
  (gRet (gAll (dTuple true) (gsC (gv 1) gsN)))))))
def f_unhexed (cx : Nat → Addr) : List D → R D := runF 5 (g_unhexed cx)
theorem f_unhexed_run (cx : Nat → Addr) (d0 : D) : f_unhexed cx [d0] = (g_unhexed cx [d0, .non, .non, .non, .non] >>= finF) := rfl
set_option maxHeartbeats 16000000 in
theorem D_unhexed [Tbs] {cx : Nat → Addr} {P : Program} {w : World} {K : PySem.W.Frag} {mg : Str → Option Value} {base : Heap} {a : Addr} {fd : FuncData} (B : Bn mg) (h_BETWEEN : Cst K mg "BETWEEN" (.str (Str.ofString " \n")) (.str (Str.ofString " \n"))) (h_FIGURES : Cst K mg "FIGURES" (.str (Str.ofString "0123456789abcdef")) (.str (Str.ofString "0123456789abcdef"))) (O_NoFile : OwnX K mg "NoFile" (cx 1)) (F : Fun K "unhexed" "unhexed" s_unhexed a fd) :
    FnOk P w K mg base (L2.CX P w) 1 a fd ["text"] (spD K [.fr] M.fr (f_unhexed cx)) := by
  obtain ⟨_, h1_BETWEEN, h2_BETWEEN, h3_BETWEEN⟩ := h_BETWEEN
  obtain ⟨_, h1_FIGURES, h2_FIGURES, h3_FIGURES⟩ := h_FIGURES
  exact fn_body (N := N_unhexed) (k := 0) (n := []) (b := []) (c := []) (g_unhexed cx) rfl B F sc_unhexed rfl rfl fun cdv A outer s H E U => ⟨_, (dss_cons (n := [M.fr, (M.ow M.fr), M.un, M.un, M.un]) (ds_set 1 U (de_lst (m := M.fr) du_nil))
  (dss_cons (n := [M.fr, (M.ow M.fr), M.fr, M.un, M.un]) (ds_set 2 U de_non)
  (dss_cons (n := [M.fr, (M.ow M.fr), M.fr, M.un, M.un]) (ds_for (Γ := [M.fr, (M.ow M.fr), M.fr, M.un, M.un]) U (di_any U (de_lower (de_v 0))) (dg_name 3 U)
  (DSs.post (dss_cons (n := [M.fr, (M.ow M.fr), M.fr, M.fr, M.un]) (ds_if (DW.dt (dw_and (dt_inS (de_v 3) (de_glob h1_BETWEEN h2_BETWEEN h3_BETWEEN)) (dw_and1 (dt_isN (de_v 2) de_non))))
  (dss_one (DS.pre ds_continue (.un 3 rfl .refl)))
  dss_nil)
  (dss_cons (n := [M.fr, (M.ow M.fr), M.fr, M.fr, M.fr]) (ds_set 4 U (de_find (de_glob h1_FIGURES h2_FIGURES h3_FIGURES) (de_v 3)))
  (dss_cons (n := [M.fr, (M.ow M.fr), M.fr, M.fr, M.fr]) (ds_if (dt_lt (de_v 4) de_int)
  (dss_one (ds_raise U O_NoFile))
  dss_nil)
  (dss_one (ds_if (dt_isN (de_v 2) de_non)
  (dss_one (ds_set 2 U (de_v 4)))
  (dss_cons (n := [M.fr, (M.ow M.fr), M.fr, M.fr, M.fr]) (ds_app 1 U (DE.frz (de_add U (de_mul (de_v 2) de_int) (de_v 4))))
  (dss_one (ds_set 2 U de_non)))))))) (.un 3 rfl (.un 4 rfl .refl))))
  (dss_cons (n := [M.fr, (M.ow M.fr), M.fr, M.un, M.un]) (ds_if (dt_notN (de_v 2) de_non)
  (dss_one (ds_raise U O_NoFile))
  dss_nil)
  (dss_one (ds_ret (de_tupleP U (de_vp 1))))))))⟩
/-! _law_cell_at -/
abbrev s__law_cell_at : Stmt := topS 10
abbrev N__law_cell_at : List Str := ["_law_script", "_law_k"]
theorem sc__law_cell_at : FnScope N__law_cell_at ["_law_script", "_law_k"] (defScope s__law_cell_at) := ⟨rfl, rfl, rfl, by decide +kernel, rfl, by decide +kernel, by decide +kernel⟩
def g__law_cell_at : List D → R Fl :=
  (gSeq (gIte (gB (g2 dLt (gv 1) (gAll dLen (gsC (gv 0) gsN))))
  (gRet (g2 dIx (gv 0) (gv 1)))
  gNx)
  (gRet (gc (.int 0))))
def f__law_cell_at : List D → R D := runF 2 g__law_cell_at
theorem f__law_cell_at_run (d0 d1 : D) : f__law_cell_at [d0, d1] = (g__law_cell_at [d0, d1] >>= finF) := rfl
set_option maxHeartbeats 16000000 in
theorem D__law_cell_at [Tbs] {P : Program} {w : World} {K : PySem.W.Frag} {mg : Str → Option Value} {base : Heap} {a : Addr} {fd : FuncData} (B : Bn mg) (F : Fun K "_law_cell_at" "_law_cell_at" s__law_cell_at a fd) :
    FnOk P w K mg base (L2.CX P w) 1 a fd ["_law_script", "_law_k"] (spD K [.fr, .fr] M.fr f__law_cell_at) := by
  exact fn_body (N := N__law_cell_at) (k := 0) (n := []) (b := []) (c := []) g__law_cell_at rfl B F sc__law_cell_at rfl rfl fun cdv A outer s H E U => ⟨_, (dss_cons (n := [M.fr, M.fr]) (ds_if (dt_lt (de_v 1) (de_len U (de_v 0)))
  (dss_one (ds_ret (de_ix U (de_v 0) (de_v 1))))
  dss_nil)
  (dss_one (ds_ret de_int)))⟩
/-! _law_whole -/
abbrev s__law_whole : Stmt := topS 11
abbrev N__law_whole : List Str := ["_law_found"]
theorem sc__law_whole : FnScope N__law_whole ["_law_found"] (defScope s__law_whole) := ⟨rfl, rfl, rfl, by decide +kernel, rfl, by decide +kernel, by decide +kernel⟩
def g__law_whole : List D → R Fl :=
  (gRet (toBl (gAnd (gB (g1 (dIsi "int") (gv 0))) (gB (toBl (gNot (gB (g1 (dIsi "bool") (gv 0)))))))))
def f__law_whole : List D → R D := runF 1 g__law_whole
theorem f__law_whole_run (d0 : D) : f__law_whole [d0] = (g__law_whole [d0] >>= finF) := rfl
set_option maxHeartbeats 16000000 in
theorem D__law_whole [Tbs] {P : Program} {w : World} {K : PySem.W.Frag} {mg : Str → Option Value} {base : Heap} {a : Addr} {fd : FuncData} (B : Bn mg) (F : Fun K "_law_whole" "_law_whole" s__law_whole a fd) :
    FnOk P w K mg base (L2.CX P w) 1 a fd ["_law_found"] (spD K [.fr] M.fr f__law_whole) := by
  exact fn_body (N := N__law_whole) (k := 0) (n := []) (b := []) (c := []) g__law_whole rfl B F sc__law_whole rfl rfl fun cdv A outer s H E U => ⟨_, (dss_one (ds_ret (de_and (de_isi "int" U (de_v 0) U.bn.int (by decide +kernel)) (de_one (de_not (de_isi "bool" U (de_v 0) U.bn.bool (by decide +kernel)))))))⟩
/-! _law_mixed -/
abbrev s__law_mixed : Stmt := topS 12
abbrev N__law_mixed : List Str := ["_law_cell", "_law_k", "_law_many", "_law_some", "_law_made"]
theorem sc__law_mixed : FnScope N__law_mixed ["_law_cell", "_law_k", "_law_many"] (defScope s__law_mixed) := ⟨rfl, rfl, rfl, by decide +kernel, rfl, by decide +kernel, by decide +kernel⟩
def g__law_mixed : List D → R Fl :=
  (gSeq (gSet 3 (gAll dLst (gsC (gc (.int 99991)) (gsC (gc (.int 99989)) (gsC (gc (.int 99971)) (gsC (gc (.int 99961)) (gsC (gc (.int 99929)) (gsC (gc (.int 99923)) (gsC (gc (.int 99907)) (gsC (gc (.int 99901)) (gsC (gc (.int 99881)) (gsC (gc (.int 99877)) (gsC (gc (.int 99871)) gsN)))))))))))))
  (gSeq (gSet 4 (g2 dMod (g2 dMul (g2 dAdd (gv 0) (g2 dMul (gc (.int 7)) (gv 1))) (gc (.int 48271))) (g2 dIx (gv 3) (g2 dMod (gv 1) (gc (.int 11))))))
  (gRet (g2 dMod (g2 dMod (g2 dAdd (g2 dAdd (g2 dMul (g2 dMul (gv 4) (gv 4)) (gc (.int 7))) (gv 4)) (gv 1)) (gc (.int 1000003))) (gv 2)))))
def f__law_mixed : List D → R D := runF 5 g__law_mixed
theorem f__law_mixed_run (d0 d1 d2 : D) : f__law_mixed [d0, d1, d2] = (g__law_mixed [d0, d1, d2, .non, .non] >>= finF) := rfl
set_option maxHeartbeats 16000000 in
theorem D__law_mixed [Tbs] {P : Program} {w : World} {K : PySem.W.Frag} {mg : Str → Option Value} {base : Heap} {a : Addr} {fd : FuncData} (B : Bn mg) (F : Fun K "_law_mixed" "_law_mixed" s__law_mixed a fd) :
    FnOk P w K mg base (L2.CX P w) 1 a fd ["_law_cell", "_law_k", "_law_many"] (spD K [.fr, .fr, .fr] M.fr f__law_mixed) := by
  exact fn_body (N := N__law_mixed) (k := 0) (n := []) (b := []) (c := []) g__law_mixed rfl B F sc__law_mixed rfl rfl fun cdv A outer s H E U => ⟨_, (dss_cons (n := [M.fr, M.fr, M.fr, M.fr, M.un]) (ds_set 3 U (DE.frz (de_lst (du_cons de_int (du_cons de_int (du_cons de_int (du_cons de_int (du_cons de_int (du_cons de_int (du_cons de_int (du_cons de_int (du_cons de_int (du_cons de_int (du_cons de_int du_nil))))))))))))))
  (dss_cons (n := [M.fr, M.fr, M.fr, M.fr, M.fr]) (ds_set 4 U (de_mod (de_mul (de_add U (de_v 0) (de_mul de_int (de_v 1))) de_int) (de_ix U (de_v 3) (de_mod (de_v 1) de_int))))
  (dss_one (ds_ret (de_mod (de_mod (de_add U (de_add U (de_mul (de_mul (de_v 4) (de_v 4)) de_int) (de_v 4)) (de_v 1)) de_int) (de_v 2))))))⟩
/-! _law_alike -/
abbrev s__law_alike : Stmt := topS 13
abbrev N__law_alike : List Str := ["_law_found", "_law_due", "_law_k"]
theorem sc__law_alike : FnScope N__law_alike ["_law_found", "_law_due"] (defScope s__law_alike) := ⟨rfl, rfl, rfl, by decide +kernel, rfl, by decide +kernel, by decide +kernel⟩
def g__law_alike (f__law_alike : List D → R D) : List D → R Fl :=
  (gSeq (gIte (gB (g1 (dIsi2 "tuple" "list") (gv 1)))
  (gSeq (gIte (gOr (gNot (gB (g1 (dIsi2 "tuple" "list") (gv 0)))) (gB (g2 dNe (g1 (dIsi "tuple") (gv 0)) (g1 (dIsi "tuple") (gv 1)))))
  (gRet (gc (.bl false)))
  gNx)
  (gSeq (gIte (gB (g2 dNe (gAll dLen (gsC (gv 0) gsN)) (gAll dLen (gsC (gv 1) gsN))))
  (gRet (gc (.bl false)))
  gNx)
  (gRet (gAll dAll (gsC (gLc (gI dRng1 (gsC (gAll dLen (gsC (gv 1) gsN)) gsN)) (gtN 2) gtt (gAll f__law_alike (gsC (g2 dIx (gv 0) (gv 2)) (gsC (g2 dIx (gv 1) (gv 2)) gsN)))) gsN)))))
  gNx)
  (gSeq (gIte (gB (g1 (dIsi "str") (gv 1)))
  (gRet (toBl (gAnd (gB (g1 (dIsi "str") (gv 0))) (gB (g2 dEq (gv 0) (gv 1))))))
  gNx)
  (gRet (toBl (gAnd (gB (gAll f__law_whole (gsC (gv 0) gsN))) (gB (g2 dEq (gv 0) (gv 1))))))))
def F__law_alike : Nat → List D → R D
  | 0 => fun _ => .bad
  | n + 1 => runF 3 (g__law_alike (F__law_alike n))
abbrev f__law_alike : List D → R D := F__law_alike 6
theorem F__law_alike_run (n : Nat) (d0 d1 : D) : F__law_alike (n + 1) [d0, d1] = (g__law_alike (F__law_alike n) [d0, d1, .non] >>= finF) := rfl
set_option maxHeartbeats 16000000 in
theorem D__law_alike_0 [Tbs] {P : Program} {w : World} {K : PySem.W.Frag} {mg : Str → Option Value} {base : Heap} {a : Addr} {fd : FuncData} (B : Bn mg) (h__law_whole : FnD P w K mg base 1 "_law_whole" [.fr] M.fr f__law_whole) (F : Fun K "_law_alike" "_law_alike" s__law_alike a fd) :
    FnOk P w K mg base (L2.CX P w) 2 a fd ["_law_found", "_law_due"] (spD K [.fr, .fr] M.fr (F__law_alike 0)) := by
  exact fn_body (N := N__law_alike) (k := 1) (n := []) (b := []) (c := []) (fun _ => .bad) rfl B F sc__law_alike rfl rfl fun cdv A outer s H E U => ⟨_, dss_dead⟩
set_option maxHeartbeats 16000000 in
theorem D__law_alike_1 [Tbs] {P : Program} {w : World} {K : PySem.W.Frag} {mg : Str → Option Value} {base : Heap} {a : Addr} {fd : FuncData} (B : Bn mg) (h__law_whole : FnD P w K mg base 1 "_law_whole" [.fr] M.fr f__law_whole) (h__law_alike : FnD P w K mg base 2 "_law_alike" [.fr, .fr] M.fr (F__law_alike 0)) (F : Fun K "_law_alike" "_law_alike" s__law_alike a fd) :
    FnOk P w K mg base (L2.CX P w) 3 a fd ["_law_found", "_law_due"] (spD K [.fr, .fr] M.fr (F__law_alike 1)) := by
  exact fn_body (N := N__law_alike) (k := 2) (n := []) (b := []) (c := []) (g__law_alike (F__law_alike 0)) rfl B F sc__law_alike rfl rfl fun cdv A outer s H E U => ⟨_, (dss_cons (n := [M.fr, M.fr, M.un]) (ds_if (dt_val (de_isi2 "tuple" "list" U (de_v 1) U.bn.tuple (by decide +kernel) U.bn.list (by decide +kernel)))
  (dss_cons (n := [M.fr, M.fr, M.un]) (ds_if (DW.dt (dw_or (dt_not (dt_val (de_isi2 "tuple" "list" U (de_v 0) U.bn.tuple (by decide +kernel) U.bn.list (by decide +kernel)))) (dw_or1 (dt_ne U (de_isi "tuple" U (de_v 0) U.bn.tuple (by decide +kernel)) (de_isi "tuple" U (de_v 1) U.bn.tuple (by decide +kernel))))))
  (dss_one (ds_ret de_bl))
  dss_nil)
  (dss_cons (n := [M.fr, M.fr, M.un]) (ds_if (dt_ne U (de_len U (de_v 0)) (de_len U (de_v 1)))
  (dss_one (ds_ret de_bl))
  dss_nil)
  (dss_one (ds_ret (de_all U (de_lc (own := [("_law_k", 2)]) (Γ' := [M.fr, M.fr, M.fr]) U (di_range1 U (da_p (de_len U (de_v 1)) da_nil)) (blkOk_by (own := [("_law_k", 2)]) (N := N__law_alike) (sc := defScope s__law_alike) (by decide +kernel)) (fun _ _ _ _ _ U => (dg_name 2 U)) (fun _ _ _ _ _ U => dts_nil) (fun _ _ _ _ _ U => (de_call U h__law_alike (da_f (de_ix U (de_v 0) (de_v 2)) (da_f (de_ix U (de_v 1) (de_v 2)) da_nil))))))))))
  dss_nil)
  (dss_cons (n := [M.fr, M.fr, M.un]) (ds_if (dt_val (de_isi "str" U (de_v 1) U.bn.str (by decide +kernel)))
  (dss_one (ds_ret (de_and (de_isi "str" U (de_v 0) U.bn.str (by decide +kernel)) (de_one (de_eq U (de_v 0) (de_v 1))))))
  dss_nil)
  (dss_one (ds_ret (de_and (de_call U h__law_whole (da_f (de_v 0) da_nil)) (de_one (de_eq U (de_v 0) (de_v 1))))))))⟩
set_option maxHeartbeats 16000000 in
theorem D__law_alike_2 [Tbs] {P : Program} {w : World} {K : PySem.W.Frag} {mg : Str → Option Value} {base : Heap} {a : Addr} {fd : FuncData} (B : Bn mg) (h__law_whole : FnD P w K mg base 1 "_law_whole" [.fr] M.fr f__law_whole) (h__law_alike : FnD P w K mg base 3 "_law_alike" [.fr, .fr] M.fr (F__law_alike 1)) (F : Fun K "_law_alike" "_law_alike" s__law_alike a fd) :
    FnOk P w K mg base (L2.CX P w) 4 a fd ["_law_found", "_law_due"] (spD K [.fr, .fr] M.fr (F__law_alike 2)) := by
  exact fn_body (N := N__law_alike) (k := 3) (n := []) (b := []) (c := []) (g__law_alike (F__law_alike 1)) rfl B F sc__law_alike rfl rfl fun cdv A outer s H E U => ⟨_, (dss_cons (n := [M.fr, M.fr, M.un]) (ds_if (dt_val (de_isi2 "tuple" "list" U (de_v 1) U.bn.tuple (by decide +kernel) U.bn.list (by decide +kernel)))
  (dss_cons (n := [M.fr, M.fr, M.un]) (ds_if (DW.dt (dw_or (dt_not (dt_val (de_isi2 "tuple" "list" U (de_v 0) U.bn.tuple (by decide +kernel) U.bn.list (by decide +kernel)))) (dw_or1 (dt_ne U (de_isi "tuple" U (de_v 0) U.bn.tuple (by decide +kernel)) (de_isi "tuple" U (de_v 1) U.bn.tuple (by decide +kernel))))))
  (dss_one (ds_ret de_bl))
  dss_nil)
  (dss_cons (n := [M.fr, M.fr, M.un]) (ds_if (dt_ne U (de_len U (de_v 0)) (de_len U (de_v 1)))
  (dss_one (ds_ret de_bl))
  dss_nil)
  (dss_one (ds_ret (de_all U (de_lc (own := [("_law_k", 2)]) (Γ' := [M.fr, M.fr, M.fr]) U (di_range1 U (da_p (de_len U (de_v 1)) da_nil)) (blkOk_by (own := [("_law_k", 2)]) (N := N__law_alike) (sc := defScope s__law_alike) (by decide +kernel)) (fun _ _ _ _ _ U => (dg_name 2 U)) (fun _ _ _ _ _ U => dts_nil) (fun _ _ _ _ _ U => (de_call U h__law_alike (da_f (de_ix U (de_v 0) (de_v 2)) (da_f (de_ix U (de_v 1) (de_v 2)) da_nil))))))))))
  dss_nil)
  (dss_cons (n := [M.fr, M.fr, M.un]) (ds_if (dt_val (de_isi "str" U (de_v 1) U.bn.str (by decide +kernel)))
  (dss_one (ds_ret (de_and (de_isi "str" U (de_v 0) U.bn.str (by decide +kernel)) (de_one (de_eq U (de_v 0) (de_v 1))))))
  dss_nil)
  (dss_one (ds_ret (de_and (de_call U h__law_whole (da_f (de_v 0) da_nil)) (de_one (de_eq U (de_v 0) (de_v 1))))))))⟩
set_option maxHeartbeats 16000000 in
theorem D__law_alike_3 [Tbs] {P : Program} {w : World} {K : PySem.W.Frag} {mg : Str → Option Value} {base : Heap} {a : Addr} {fd : FuncData} (B : Bn mg) (h__law_whole : FnD P w K mg base 1 "_law_whole" [.fr] M.fr f__law_whole) (h__law_alike : FnD P w K mg base 4 "_law_alike" [.fr, .fr] M.fr (F__law_alike 2)) (F : Fun K "_law_alike" "_law_alike" s__law_alike a fd) :
    FnOk P w K mg base (L2.CX P w) 5 a fd ["_law_found", "_law_due"] (spD K [.fr, .fr] M.fr (F__law_alike 3)) := by
  exact fn_body (N := N__law_alike) (k := 4) (n := []) (b := []) (c := []) (g__law_alike (F__law_alike 2)) rfl B F sc__law_alike rfl rfl fun cdv A outer s H E U => ⟨_, (dss_cons (n := [M.fr, M.fr, M.un]) (ds_if (dt_val (de_isi2 "tuple" "list" U (de_v 1) U.bn.tuple (by decide +kernel) U.bn.list (by decide +kernel)))
  (dss_cons (n := [M.fr, M.fr, M.un]) (ds_if (DW.dt (dw_or (dt_not (dt_val (de_isi2 "tuple" "list" U (de_v 0) U.bn.tuple (by decide +kernel) U.bn.list (by decide +kernel)))) (dw_or1 (dt_ne U (de_isi "tuple" U (de_v 0) U.bn.tuple (by decide +kernel)) (de_isi "tuple" U (de_v 1) U.bn.tuple (by decide +kernel))))))
  (dss_one (ds_ret de_bl))
  dss_nil)
  (dss_cons (n := [M.fr, M.fr, M.un]) (ds_if (dt_ne U (de_len U (de_v 0)) (de_len U (de_v 1)))
  (dss_one (ds_ret de_bl))
  dss_nil)
  (dss_one (ds_ret (de_all U (de_lc (own := [("_law_k", 2)]) (Γ' := [M.fr, M.fr, M.fr]) U (di_range1 U (da_p (de_len U (de_v 1)) da_nil)) (blkOk_by (own := [("_law_k", 2)]) (N := N__law_alike) (sc := defScope s__law_alike) (by decide +kernel)) (fun _ _ _ _ _ U => (dg_name 2 U)) (fun _ _ _ _ _ U => dts_nil) (fun _ _ _ _ _ U => (de_call U h__law_alike (da_f (de_ix U (de_v 0) (de_v 2)) (da_f (de_ix U (de_v 1) (de_v 2)) da_nil))))))))))
  dss_nil)
  (dss_cons (n := [M.fr, M.fr, M.un]) (ds_if (dt_val (de_isi "str" U (de_v 1) U.bn.str (by decide +kernel)))
  (dss_one (ds_ret (de_and (de_isi "str" U (de_v 0) U.bn.str (by decide +kernel)) (de_one (de_eq U (de_v 0) (de_v 1))))))
  dss_nil)
  (dss_one (ds_ret (de_and (de_call U h__law_whole (da_f (de_v 0) da_nil)) (de_one (de_eq U (de_v 0) (de_v 1))))))))⟩
set_option maxHeartbeats 16000000 in
theorem D__law_alike_4 [Tbs] {P : Program} {w : World} {K : PySem.W.Frag} {mg : Str → Option Value} {base : Heap} {a : Addr} {fd : FuncData} (B : Bn mg) (h__law_whole : FnD P w K mg base 1 "_law_whole" [.fr] M.fr f__law_whole) (h__law_alike : FnD P w K mg base 5 "_law_alike" [.fr, .fr] M.fr (F__law_alike 3)) (F : Fun K "_law_alike" "_law_alike" s__law_alike a fd) :
    FnOk P w K mg base (L2.CX P w) 6 a fd ["_law_found", "_law_due"] (spD K [.fr, .fr] M.fr (F__law_alike 4)) := by
  exact fn_body (N := N__law_alike) (k := 5) (n := []) (b := []) (c := []) (g__law_alike (F__law_alike 3)) rfl B F sc__law_alike rfl rfl fun cdv A outer s H E U => ⟨_, (dss_cons (n := [M.fr, M.fr, M.un]) (ds_if (dt_val (de_isi2 "tuple" "list" U (de_v 1) U.bn.tuple (by decide +kernel) U.bn.list (by decide +kernel)))
  (dss_cons (n := [M.fr, M.fr, M.un]) (ds_if (DW.dt (dw_or (dt_not (dt_val (de_isi2 "tuple" "list" U (de_v 0) U.bn.tuple (by decide +kernel) U.bn.list (by decide +kernel)))) (dw_or1 (dt_ne U (de_isi "tuple" U (de_v 0) U.bn.tuple (by decide +kernel)) (de_isi "tuple" U (de_v 1) U.bn.tuple (by decide +kernel))))))
  (dss_one (ds_ret de_bl))
  dss_nil)
  (dss_cons (n := [M.fr, M.fr, M.un]) (ds_if (dt_ne U (de_len U (de_v 0)) (de_len U (de_v 1)))
  (dss_one (ds_ret de_bl))
  dss_nil)
  (dss_one (ds_ret (de_all U (de_lc (own := [("_law_k", 2)]) (Γ' := [M.fr, M.fr, M.fr]) U (di_range1 U (da_p (de_len U (de_v 1)) da_nil)) (blkOk_by (own := [("_law_k", 2)]) (N := N__law_alike) (sc := defScope s__law_alike) (by decide +kernel)) (fun _ _ _ _ _ U => (dg_name 2 U)) (fun _ _ _ _ _ U => dts_nil) (fun _ _ _ _ _ U => (de_call U h__law_alike (da_f (de_ix U (de_v 0) (de_v 2)) (da_f (de_ix U (de_v 1) (de_v 2)) da_nil))))))))))
  dss_nil)
  (dss_cons (n := [M.fr, M.fr, M.un]) (ds_if (dt_val (de_isi "str" U (de_v 1) U.bn.str (by decide +kernel)))
  (dss_one (ds_ret (de_and (de_isi "str" U (de_v 0) U.bn.str (by decide +kernel)) (de_one (de_eq U (de_v 0) (de_v 1))))))
  dss_nil)
  (dss_one (ds_ret (de_and (de_call U h__law_whole (da_f (de_v 0) da_nil)) (de_one (de_eq U (de_v 0) (de_v 1))))))))⟩
set_option maxHeartbeats 16000000 in
theorem D__law_alike_5 [Tbs] {P : Program} {w : World} {K : PySem.W.Frag} {mg : Str → Option Value} {base : Heap} {a : Addr} {fd : FuncData} (B : Bn mg) (h__law_whole : FnD P w K mg base 1 "_law_whole" [.fr] M.fr f__law_whole) (h__law_alike : FnD P w K mg base 6 "_law_alike" [.fr, .fr] M.fr (F__law_alike 4)) (F : Fun K "_law_alike" "_law_alike" s__law_alike a fd) :
    FnOk P w K mg base (L2.CX P w) 7 a fd ["_law_found", "_law_due"] (spD K [.fr, .fr] M.fr (F__law_alike 5)) := by
  exact fn_body (N := N__law_alike) (k := 6) (n := []) (b := []) (c := []) (g__law_alike (F__law_alike 4)) rfl B F sc__law_alike rfl rfl fun cdv A outer s H E U => ⟨_, (dss_cons (n := [M.fr, M.fr, M.un]) (ds_if (dt_val (de_isi2 "tuple" "list" U (de_v 1) U.bn.tuple (by decide +kernel) U.bn.list (by decide +kernel)))
  (dss_cons (n := [M.fr, M.fr, M.un]) (ds_if (DW.dt (dw_or (dt_not (dt_val (de_isi2 "tuple" "list" U (de_v 0) U.bn.tuple (by decide +kernel) U.bn.list (by decide +kernel)))) (dw_or1 (dt_ne U (de_isi "tuple" U (de_v 0) U.bn.tuple (by decide +kernel)) (de_isi "tuple" U (de_v 1) U.bn.tuple (by decide +kernel))))))
  (dss_one (ds_ret de_bl))
  dss_nil)
  (dss_cons (n := [M.fr, M.fr, M.un]) (ds_if (dt_ne U (de_len U (de_v 0)) (de_len U (de_v 1)))
  (dss_one (ds_ret de_bl))
  dss_nil)
  (dss_one (ds_ret (de_all U (de_lc (own := [("_law_k", 2)]) (Γ' := [M.fr, M.fr, M.fr]) U (di_range1 U (da_p (de_len U (de_v 1)) da_nil)) (blkOk_by (own := [("_law_k", 2)]) (N := N__law_alike) (sc := defScope s__law_alike) (by decide +kernel)) (fun _ _ _ _ _ U => (dg_name 2 U)) (fun _ _ _ _ _ U => dts_nil) (fun _ _ _ _ _ U => (de_call U h__law_alike (da_f (de_ix U (de_v 0) (de_v 2)) (da_f (de_ix U (de_v 1) (de_v 2)) da_nil))))))))))
  dss_nil)
  (dss_cons (n := [M.fr, M.fr, M.un]) (ds_if (dt_val (de_isi "str" U (de_v 1) U.bn.str (by decide +kernel)))
  (dss_one (ds_ret (de_and (de_isi "str" U (de_v 0) U.bn.str (by decide +kernel)) (de_one (de_eq U (de_v 0) (de_v 1))))))
  dss_nil)
  (dss_one (ds_ret (de_and (de_call U h__law_whole (da_f (de_v 0) da_nil)) (de_one (de_eq U (de_v 0) (de_v 1))))))))⟩
set_option maxHeartbeats 16000000 in
theorem D__law_alike_6 [Tbs] {P : Program} {w : World} {K : PySem.W.Frag} {mg : Str → Option Value} {base : Heap} {a : Addr} {fd : FuncData} (B : Bn mg) (h__law_whole : FnD P w K mg base 1 "_law_whole" [.fr] M.fr f__law_whole) (h__law_alike : FnD P w K mg base 7 "_law_alike" [.fr, .fr] M.fr (F__law_alike 5)) (F : Fun K "_law_alike" "_law_alike" s__law_alike a fd) :
    FnOk P w K mg base (L2.CX P w) 8 a fd ["_law_found", "_law_due"] (spD K [.fr, .fr] M.fr (F__law_alike 6)) := by
  exact fn_body (N := N__law_alike) (k := 7) (n := []) (b := []) (c := []) (g__law_alike (F__law_alike 5)) rfl B F sc__law_alike rfl rfl fun cdv A outer s H E U => ⟨_, (dss_cons (n := [M.fr, M.fr, M.un]) (ds_if (dt_val (de_isi2 "tuple" "list" U (de_v 1) U.bn.tuple (by decide +kernel) U.bn.list (by decide +kernel)))
  (dss_cons (n := [M.fr, M.fr, M.un]) (ds_if (DW.dt (dw_or (dt_not (dt_val (de_isi2 "tuple" "list" U (de_v 0) U.bn.tuple (by decide +kernel) U.bn.list (by decide +kernel)))) (dw_or1 (dt_ne U (de_isi "tuple" U (de_v 0) U.bn.tuple (by decide +kernel)) (de_isi "tuple" U (de_v 1) U.bn.tuple (by decide +kernel))))))
  (dss_one (ds_ret de_bl))
  dss_nil)
  (dss_cons (n := [M.fr, M.fr, M.un]) (ds_if (dt_ne U (de_len U (de_v 0)) (de_len U (de_v 1)))
  (dss_one (ds_ret de_bl))
  dss_nil)
  (dss_one (ds_ret (de_all U (de_lc (own := [("_law_k", 2)]) (Γ' := [M.fr, M.fr, M.fr]) U (di_range1 U (da_p (de_len U (de_v 1)) da_nil)) (blkOk_by (own := [("_law_k", 2)]) (N := N__law_alike) (sc := defScope s__law_alike) (by decide +kernel)) (fun _ _ _ _ _ U => (dg_name 2 U)) (fun _ _ _ _ _ U => dts_nil) (fun _ _ _ _ _ U => (de_call U h__law_alike (da_f (de_ix U (de_v 0) (de_v 2)) (da_f (de_ix U (de_v 1) (de_v 2)) da_nil))))))))))
  dss_nil)
  (dss_cons (n := [M.fr, M.fr, M.un]) (ds_if (dt_val (de_isi "str" U (de_v 1) U.bn.str (by decide +kernel)))
  (dss_one (ds_ret (de_and (de_isi "str" U (de_v 0) U.bn.str (by decide +kernel)) (de_one (de_eq U (de_v 0) (de_v 1))))))
  dss_nil)
  (dss_one (ds_ret (de_and (de_call U h__law_whole (da_f (de_v 0) da_nil)) (de_one (de_eq U (de_v 0) (de_v 1))))))))⟩
/-! _law_data -/
abbrev s__law_data : Stmt := topS 14
abbrev N__law_data : List Str := ["_law_script", "_law_data_here", "_law_cell", "_law_k"]
theorem sc__law_data : FnScope N__law_data ["_law_script"] (defScope s__law_data) := ⟨rfl, rfl, rfl, by decide +kernel, rfl, by decide +kernel, by decide +kernel⟩
def g__law_data : List D → R Fl :=
  (gSeq (gSet 1 (gAll dLst gsN))
  (gSeq (gFor (gIter (gSl false (gv 0) goN (goS (gc (.int 120))))) (gtN 2)
  (gSet 1 (g2 dAdd (gv 1) (gLc (gI dRng1 (gsC (g2 dAdd (gc (.int 1)) (g2 dMod (gv 2) (gc (.int 9)))) gsN)) (gtN 3) gtt (gAll f__law_mixed (gsC (gv 2) (gsC (gv 3) (gsC (gc (.int 256)) gsN))))))))
  (gSeq (gIte (gB (g2 dEq (g2 dMod (gAll f__law_cell_at (gsC (gv 0) (gsC (gc (.int 0)) gsN))) (gc (.int 4))) (gc (.int 1))))
  (gSet 1 (gSl false (gv 1) goN (goS (g2 dMul (g2 dDiv (gAll dLen (gsC (gv 1) gsN)) (gc (.int 32))) (gc (.int 32))))))
  gNx)
  (gRet (gv 1)))))
def f__law_data : List D → R D := runF 4 g__law_data
theorem f__law_data_run (d0 : D) : f__law_data [d0] = (g__law_data [d0, .non, .non, .non] >>= finF) := rfl
set_option maxHeartbeats 16000000 in
theorem D__law_data [Tbs] {P : Program} {w : World} {K : PySem.W.Frag} {mg : Str → Option Value} {base : Heap} {a : Addr} {fd : FuncData} (B : Bn mg) (h__law_cell_at : FnD P w K mg base 1 "_law_cell_at" [.fr, .fr] M.fr f__law_cell_at) (h__law_mixed : FnD P w K mg base 1 "_law_mixed" [.fr, .fr, .fr] M.fr f__law_mixed) (F : Fun K "_law_data" "_law_data" s__law_data a fd) :
    FnOk P w K mg base (L2.CX P w) 2 a fd ["_law_script"] (spD K [.fr] M.fr f__law_data) := by
  exact fn_body (N := N__law_data) (k := 1) (n := []) (b := []) (c := []) g__law_data rfl B F sc__law_data rfl rfl fun cdv A outer s H E U => ⟨_, (dss_cons (n := [M.fr, M.fr, M.un, M.un]) (ds_set 1 U (DE.frz (de_lst (m := .fr) du_nil)))
  (dss_cons (n := [M.fr, M.fr, M.un, M.un]) (ds_for (Γ := [M.fr, M.fr, M.un, M.un]) U (di_any U (DE.frz (de_sl U (de_v 0) do_none (do_some de_int)))) (dg_name 2 U)
  (DSs.post (dss_one (ds_set 1 U (DE.frz (de_add U (de_v 1) (de_lc (own := [("_law_k", 3)]) (Γ' := [M.fr, M.fr, M.fr, M.fr]) U (di_range1 U (da_p (de_add U de_int (de_mod (de_v 2) de_int)) da_nil)) (blkOk_by (own := [("_law_k", 3)]) (N := N__law_data) (sc := defScope s__law_data) (by decide +kernel)) (fun _ _ _ _ _ U => (dg_name 3 U)) (fun _ _ _ _ _ U => dts_nil) (fun _ _ _ _ _ U => (de_call U h__law_mixed (da_f (de_v 2) (da_f (de_v 3) (da_f de_int da_nil)))))))))) (.un 2 rfl .refl)))
  (dss_cons (n := [M.fr, M.fr, M.un, M.un]) (ds_if (dt_eq U (de_mod (de_call U h__law_cell_at (da_f (de_v 0) (da_f de_int da_nil))) de_int) de_int)
  (dss_one (ds_set 1 U (DE.frz (de_sl U (de_v 1) do_none (do_some (de_mul (de_div (de_len U (de_v 1)) de_int) de_int))))))
  dss_nil)
  (dss_one (ds_ret (de_v 1))))))⟩
/-! _law_hex -/
abbrev s__law_hex : Stmt := topS 15
abbrev N__law_hex : List Str := ["_law_data_here", "_law_figures", "_law_built", "_law_place", "_law_byte"]
theorem sc__law_hex : FnScope N__law_hex ["_law_data_here"] (defScope s__law_hex) := ⟨rfl, rfl, rfl, by decide +kernel, rfl, by decide +kernel, by decide +kernel⟩
def g__law_hex : List D → R Fl :=
  (gSeq (gSet 1 (gc (.str (Str.ofString "0123456789abcdef"))))
  (gSeq (gSet 2 (gc (.str (Str.ofString ""))))
  (gSeq (gFor (gI dRng1 (gsC (gAll dLen (gsC (gv 0) gsN)) gsN)) (gtN 3)
  (gSeq (gSet 4 (g2 dIx (gv 0) (gv 3)))
  (gSeq (gSet 2 (g2 dAdd (g2 dAdd (gv 2) (g2 dIx (gv 1) (g2 dDiv (gv 4) (gc (.int 16))))) (g2 dIx (gv 1) (g2 dMod (gv 4) (gc (.int 16))))))
  (gIte (gOr (gB (g2 dEq (g2 dMod (gv 3) (gc (.int 32))) (gc (.int 31)))) (gB (g2 dEq (gv 3) (g2 dSub (gAll dLen (gsC (gv 0) gsN)) (gc (.int 1))))))
  (gSet 2 (g2 dAdd (gv 2) (gc (.str (Str.ofString "\n")))))
  gNx))))
  (gRet (gv 2)))))
def f__law_hex : List D → R D := runF 5 g__law_hex
theorem f__law_hex_run (d0 : D) : f__law_hex [d0] = (g__law_hex [d0, .non, .non, .non, .non] >>= finF) := rfl
set_option maxHeartbeats 16000000 in
theorem D__law_hex [Tbs] {P : Program} {w : World} {K : PySem.W.Frag} {mg : Str → Option Value} {base : Heap} {a : Addr} {fd : FuncData} (B : Bn mg) (F : Fun K "_law_hex" "_law_hex" s__law_hex a fd) :
    FnOk P w K mg base (L2.CX P w) 1 a fd ["_law_data_here"] (spD K [.fr] M.fr f__law_hex) := by
  exact fn_body (N := N__law_hex) (k := 0) (n := []) (b := []) (c := []) g__law_hex rfl B F sc__law_hex rfl rfl fun cdv A outer s H E U => ⟨_, (dss_cons (n := [M.fr, M.fr, M.un, M.un, M.un]) (ds_set 1 U de_str)
  (dss_cons (n := [M.fr, M.fr, M.fr, M.un, M.un]) (ds_set 2 U de_str)
  (dss_cons (n := [M.fr, M.fr, M.fr, M.un, M.un]) (ds_for (Γ := [M.fr, M.fr, M.fr, M.un, M.un]) U (di_range1 U (da_p (de_len U (de_v 0)) da_nil)) (dg_name 3 U)
  (DSs.post (dss_cons (n := [M.fr, M.fr, M.fr, M.fr, M.fr]) (ds_set 4 U (de_ix U (de_v 0) (de_v 3)))
  (dss_cons (n := [M.fr, M.fr, M.fr, M.fr, M.fr]) (ds_set 2 U (DE.frz (de_add U (de_add U (de_v 2) (de_ix U (de_v 1) (de_div (de_v 4) de_int))) (de_ix U (de_v 1) (de_mod (de_v 4) de_int)))))
  (dss_one (ds_if (DW.dt (dw_or (dt_eq U (de_mod (de_v 3) de_int) de_int) (dw_or1 (dt_eq U (de_v 3) (de_sub (de_len U (de_v 0)) de_int)))))
  (dss_one (ds_set 2 U (DE.frz (de_add U (de_v 2) de_str))))
  dss_nil)))) (.un 3 rfl (.un 4 rfl .refl))))
  (dss_one (ds_ret (de_v 2))))))⟩
/-! _law_loose -/
abbrev s__law_loose : Stmt := topS 16
abbrev N__law_loose : List Str := ["_law_built", "_law_cell", "_law_text", "_law_place", "_law_blank"]
theorem sc__law_loose : FnScope N__law_loose ["_law_built", "_law_cell"] (defScope s__law_loose) := ⟨rfl, rfl, rfl, by decide +kernel, rfl, by decide +kernel, by decide +kernel⟩
def g__law_loose : List D → R Fl :=
  (gSeq (gSet 2 (g2 dIx (gAll dLst (gsC (gc (.str (Str.ofString ""))) (gsC (gc (.str (Str.ofString " "))) (gsC (gc (.str (Str.ofString "\n"))) gsN)))) (gAll f__law_mixed (gsC (gv 1) (gsC (gc (.int 1)) (gsC (gc (.int 3)) gsN))))))
  (gSeq (gFor (gI dRng3 (gsC (gc (.int 0)) (gsC (gAll dLen (gsC (gv 0) gsN)) (gsC (gc (.int 2)) gsN)))) (gtN 3)
  (gSeq (gSet 4 (g2 dIx (gAll dLst (gsC (gc (.str (Str.ofString ""))) (gsC (gc (.str (Str.ofString ""))) (gsC (gc (.str (Str.ofString " "))) (gsC (gc (.str (Str.ofString "\n"))) (gsC (gc (.str (Str.ofString "  \n"))) gsN)))))) (gAll f__law_mixed (gsC (g2 dAdd (gv 1) (gv 3)) (gsC (gc (.int 2)) (gsC (gc (.int 5)) gsN))))))
  (gSet 2 (g2 dAdd (g2 dAdd (gv 2) (gSl false (gv 0) (goS (gv 3)) (goS (g2 dAdd (gv 3) (gc (.int 2)))))) (gv 4)))))
  (gRet (gv 2))))
def f__law_loose : List D → R D := runF 5 g__law_loose
theorem f__law_loose_run (d0 d1 : D) : f__law_loose [d0, d1] = (g__law_loose [d0, d1, .non, .non, .non] >>= finF) := rfl
set_option maxHeartbeats 16000000 in
theorem D__law_loose [Tbs] {P : Program} {w : World} {K : PySem.W.Frag} {mg : Str → Option Value} {base : Heap} {a : Addr} {fd : FuncData} (B : Bn mg) (h__law_mixed : FnD P w K mg base 1 "_law_mixed" [.fr, .fr, .fr] M.fr f__law_mixed) (F : Fun K "_law_loose" "_law_loose" s__law_loose a fd) :
    FnOk P w K mg base (L2.CX P w) 2 a fd ["_law_built", "_law_cell"] (spD K [.fr, .fr] M.fr f__law_loose) := by
  exact fn_body (N := N__law_loose) (k := 1) (n := []) (b := []) (c := []) g__law_loose rfl B F sc__law_loose rfl rfl fun cdv A outer s H E U => ⟨_, (dss_cons (n := [M.fr, M.fr, M.fr, M.un, M.un]) (ds_set 2 U (de_ix U (DE.frz (de_lst (du_cons de_str (du_cons de_str (du_cons de_str du_nil))))) (de_call U h__law_mixed (da_f (de_v 1) (da_f de_int (da_f de_int da_nil))))))
  (dss_cons (n := [M.fr, M.fr, M.fr, M.un, M.un]) (ds_for (Γ := [M.fr, M.fr, M.fr, M.un, M.un]) U (di_range3 U (da_p de_int (da_p (de_len U (de_v 0)) (da_p de_int da_nil)))) (dg_name 3 U)
  (DSs.post (dss_cons (n := [M.fr, M.fr, M.fr, M.fr, M.fr]) (ds_set 4 U (de_ix U (DE.frz (de_lst (du_cons de_str (du_cons de_str (du_cons de_str (du_cons de_str (du_cons de_str du_nil))))))) (de_call U h__law_mixed (da_f (DE.frz (de_add U (de_v 1) (de_v 3))) (da_f de_int (da_f de_int da_nil))))))
  (dss_one (ds_set 2 U (DE.frz (de_add U (de_add U (de_v 2) (de_sl U (de_v 0) (do_some (de_v 3)) (do_some (de_add U (de_v 3) de_int)))) (de_v 4)))))) (.un 3 rfl (.un 4 rfl .refl))))
  (dss_one (ds_ret (de_v 2)))))⟩
/-! _law_bytes -/
abbrev s__law_bytes : Stmt := topS 17
abbrev N__law_bytes : List Str := ["_law_text", "_law_found"]
theorem sc__law_bytes : FnScope N__law_bytes ["_law_text"] (defScope s__law_bytes) := ⟨rfl, rfl, rfl, by decide +kernel, rfl, by decide +kernel, by decide +kernel⟩
def g__law_bytes (cx : Nat → Addr) : List D → R Fl :=
  (gSeq (gSet 1 (gc .non))
  (gSeq (gTryO 1 .non (gSet 1 (gCallN (f_unhexed cx) (gsC (gv 0) gsN))) [cx 1])
  (gRet (gv 1))))
def f__law_bytes (cx : Nat → Addr) : List D → R D := runF 2 (g__law_bytes cx)
theorem f__law_bytes_run (cx : Nat → Addr) (d0 : D) : f__law_bytes cx [d0] = (g__law_bytes cx [d0, .non] >>= finF) := rfl
set_option maxHeartbeats 16000000 in
theorem D__law_bytes [Tbs] {cx : Nat → Addr} {P : Program} {w : World} {K : PySem.W.Frag} {mg : Str → Option Value} {base : Heap} {a : Addr} {fd : FuncData} (B : Bn mg) (P_PressError : mg "PressError" = some (.ref (cx 0))) (m_NoFile_PressError : PySem.W.exmOne K (.ref (cx 1)) (.ref (cx 0)) = some true) (h_unhexed : FnD P w K mg base 1 "unhexed" [.fr] M.fr (f_unhexed cx)) (F : Fun K "_law_bytes" "_law_bytes" s__law_bytes a fd) :
    FnOk P w K mg base (L2.CX P w) 2 a fd ["_law_text"] (spD K [.fr] M.fr (f__law_bytes cx)) := by
  exact fn_body (N := N__law_bytes) (k := 1) (n := []) (b := []) (c := []) (g__law_bytes cx) rfl B F sc__law_bytes rfl rfl fun cdv A outer s H E U => ⟨_, (dss_cons (n := [M.fr, M.fr]) (ds_set 1 U de_non)
  (dss_cons (n := [M.fr, M.fr]) (ds_tryN (cs := [cx 1]) 1 U (dbx_set 1 U (dcx_call U h_unhexed fun pn xe => (da_f (de_v 0) da_nil))) P_PressError (List.forall_mem_cons.mpr ⟨m_NoFile_PressError, (fun _ h => nomatch h)⟩))
  (dss_one (ds_ret (de_v 1)))))⟩
/-! law -/
abbrev s_law : Stmt := topS 18
abbrev N_law : List Str := ["_law_script", "_law_data_here", "_law_handed", "_law_due", "_law_found", "_law_loose_here", "_law_text"]
theorem sc_law : FnScope N_law ["_law_script"] (defScope s_law) := ⟨rfl, rfl, rfl, by decide +kernel, rfl, by decide +kernel, by decide +kernel⟩
def g_law (cx : Nat → Addr) : List D → R Fl :=
  (gSeq (gSet 1 (gAll f__law_data (gsC (gv 0) gsN)))
  (gSeq (gSet 2 (gAll (dList false) (gsC (gv 1) gsN)))
  (gSeq (gSet 3 (gAll f__law_hex (gsC (gv 1) gsN)))
  (gSeq (gSet 4 (gAll f_hexed (gsC (gv 2) gsN)))
  (gSeq (gIte (gOr (gNot (gB (g1 (dIsi "str") (gv 4)))) (gOr (gB (g2 dNe (gv 4) (gv 3))) (gOr (gB (g2 dNe (gv 2) (gv 1))) (gB (g2 dNe (gAll f_hexed (gsC (gAll (dTuple false) (gsC (gv 1) gsN)) gsN)) (gv 3))))))
  (gRet (gc (.bl false)))
  gNx)
  (gSeq (gSet 5 (gAll f__law_loose (gsC (g1 (dRepl "\n" "") (gv 3)) (gsC (gAll f__law_cell_at (gsC (gv 0) (gsC (gc (.int 1)) gsN))) gsN))))
  (gSeq (gFor (gIter (gAll dLst (gsC (gv 3) (gsC (g1 (dT0 5592405 Txt.upper) (gv 3)) (gsC (gv 5) (gsC (g1 (dT0 5592405 Txt.upper) (gv 5)) gsN)))))) (gtN 6)
  (gIte (gNot (gB (gAll f__law_alike (gsC (gAll (f__law_bytes cx) (gsC (gv 6) gsN)) (gsC (gAll (dTuple false) (gsC (gv 1) gsN)) gsN)))))
  (gRet (gc (.bl false)))
  gNx))
  (gRet (gc (.bl true))))))))))
def f_law (cx : Nat → Addr) : List D → R D := runF 7 (g_law cx)
theorem f_law_run (cx : Nat → Addr) (d0 : D) : f_law cx [d0] = (g_law cx [d0, .non, .non, .non, .non, .non, .non] >>= finF) := rfl
set_option maxHeartbeats 16000000 in
theorem D_law [Tbs] {cx : Nat → Addr} {P : Program} {w : World} {K : PySem.W.Frag} {mg : Str → Option Value} {base : Heap} {a : Addr} {fd : FuncData} (B : Bn mg) (h_hexed : FnD P w K mg base 1 "hexed" [.fr] M.fr f_hexed) (h__law_cell_at : FnD P w K mg base 1 "_law_cell_at" [.fr, .fr] M.fr f__law_cell_at) (h__law_alike : FnD P w K mg base 8 "_law_alike" [.fr, .fr] M.fr f__law_alike) (h__law_data : FnD P w K mg base 2 "_law_data" [.fr] M.fr f__law_data) (h__law_hex : FnD P w K mg base 1 "_law_hex" [.fr] M.fr f__law_hex) (h__law_loose : FnD P w K mg base 2 "_law_loose" [.fr, .fr] M.fr f__law_loose) (h__law_bytes : FnD P w K mg base 2 "_law_bytes" [.fr] M.fr (f__law_bytes cx)) (F : Fun K "law" "law" s_law a fd) :
    FnOk P w K mg base (L2.CX P w) 9 a fd ["_law_script"] (spD K [.fr] M.fr (f_law cx)) := by
  exact fn_bodyT (N := N_law) (k := 8) (n := []) (b := []) (c := []) (g_law cx) rfl B F sc_law rfl rfl (by decide +kernel) (by decide) fun cdv A outer s H E U => ⟨_, (dsst_cons (n := [M.fr, M.fr, M.un, M.un, M.un, M.un, M.un]) (ds_set 1 U (de_call U h__law_data (da_f (de_v 0) da_nil)))
  (dsst_cons (n := [M.fr, M.fr, M.fr, M.un, M.un, M.un, M.un]) (ds_set 2 U (DE.frz (de_list U (de_v 1))))
  (dsst_cons (n := [M.fr, M.fr, M.fr, M.fr, M.un, M.un, M.un]) (ds_set 3 U (de_call U h__law_hex (da_f (de_v 1) da_nil)))
  (dsst_cons (n := [M.fr, M.fr, M.fr, M.fr, M.fr, M.un, M.un]) (ds_set 4 U (de_call U h_hexed (da_f (de_v 2) da_nil)))
  (dsst_cons (n := [M.fr, M.fr, M.fr, M.fr, M.fr, M.un, M.un]) (ds_if (DW.dt (dw_or (dt_not (dt_val (de_isi "str" U (de_v 4) U.bn.str (by decide +kernel)))) (dw_or (dt_ne U (de_v 4) (de_v 3)) (dw_or (dt_ne U (de_v 2) (de_v 1)) (dw_or1 (dt_ne U (de_call U h_hexed (da_f (de_tuple U (de_v 1)) da_nil)) (de_v 3)))))))
  (dss_one (ds_ret de_bl))
  dss_nil)
  (dsst_consT (n := [M.fr, M.fr, M.fr, M.fr, M.fr, M.fr, M.un]) (dst_set 5 U (det_call U h__law_loose (dat_f (det_repl "\n" "" (de_v 3)) (DAT.of (da_f (de_call U h__law_cell_at (da_f (de_v 0) (da_f de_int da_nil))) da_nil)))))
  (DSsT.of (dss_cons (n := [M.fr, M.fr, M.fr, M.fr, M.fr, M.fr, M.un]) (ds_for (Γ := [M.fr, M.fr, M.fr, M.fr, M.fr, M.fr, M.un]) U (di_any U (DE.frz (de_lst (du_cons (de_v 3) (du_cons (de_upper (de_v 3)) (du_cons (de_v 5) (du_cons (de_upper (de_v 5)) du_nil))))))) (dg_name 6 U)
  (DSs.post (dss_one (ds_if (dt_not (dt_val (de_call U h__law_alike (da_f (de_call U h__law_bytes (da_f (de_v 6) da_nil)) (da_f (de_tuple U (de_v 1)) da_nil)))))
  (dss_one (ds_ret de_bl))
  dss_nil)) (.un 6 rfl .refl)))
  (dss_one (ds_ret de_bl))))))))))⟩
end LW
/-! DLs: how the operations over data compute. -/
namespace DL
open PySem L2

theorem dMul_l {i j : Int} (h : -(2 ^ 64) < i) (h' : i < 2 ^ 64) : dMul (.int i) (.int j) = .ok (.int (i * j)) := if_pos (.inl (.inl ⟨h, h'⟩))
theorem dMul_r {i j : Int} (h : -(2 ^ 64) < j) (h' : j < 2 ^ 64) : dMul (.int i) (.int j) = .ok (.int (i * j)) := if_pos (.inl (.inr ⟨h, h'⟩))
theorem dMul_x {i j : Int} {a b : Nat} (h : i.natAbs < 2 ^ a) (h' : j.natAbs < 2 ^ b) (hab : a + b ≤ 134217728) : dMul (.int i) (.int j) = .ok (.int (i * j)) := if_pos (.inr (mulx_ok h h' hab))
theorem log2_small {n : Nat} (h : n < 2 ^ 64) : n.log2 < 9000 := by
  by_cases z : n = 0
  · subst z; decide
  · have := (Nat.log2_lt z).mpr h
    omega
theorem dDiv_s {i j : Int} (h : 0 < j) (h' : j < 2 ^ 64) : dDiv (.int i) (.int j) = .ok (.int (i / j)) := if_pos ⟨h, log2_small (by omega)⟩
theorem dMod_s {i j : Int} (h : 0 < j) : dMod (.int i) (.int j) = .ok (.int (i % j)) := if_pos h
theorem dPow_s {i j : Int} (h : 0 ≤ j) (h' : j ≤ 1000000) (hi : i.natAbs < 2 ^ 64) : dPow (.int i) (.int j) = .ok (.int (i ^ j.toNat)) := if_pos ⟨h, h', hi⟩
theorem dShr_s {i j : Int} (h : 0 ≤ j) : dShr (.int i) (.int j) = .ok (.int (i / 2 ^ j.toNat)) := if_pos h
theorem dShl_s {i : Int} {j a : Nat} (h : i.natAbs < 2 ^ a) (ha : a + j ≤ 134217728) : dShl (.int i) (.int j) = .ok (.int (i * 2 ^ j)) := by
  have e : dShl (.int i) (.int j) = .ok (.int (i * 2 ^ (j : Int).toNat)) := if_pos (shl_ok h ha)
  rw [e, Int.toNat_natCast]
theorem dAdd_i (i j : Int) : dAdd (.int i) (.int j) = .ok (.int (i + j)) := rfl
theorem dSub_i (i j : Int) : dSub (.int i) (.int j) = .ok (.int (i - j)) := rfl
theorem dNeg_i (i : Int) : dNeg (.int i) = .ok (.int (-i)) := rfl
theorem dLt_i (i j : Int) : dLt (.int i) (.int j) = .ok (.bl (decide (i < j))) := rfl
theorem dLe_i (i j : Int) : dLe (.int i) (.int j) = .ok (.bl (decide (i ≤ j))) := rfl
theorem dGt_i (i j : Int) : dGt (.int i) (.int j) = .ok (.bl (decide (j < i))) := rfl
theorem dGe_i (i j : Int) : dGe (.int i) (.int j) = .ok (.bl (decide (j ≤ i))) := rfl
theorem dAnd_i (i j : Int) : dAnd (.int i) (.int j) = .ok (.int (Builtin.bitAnd i j)) := rfl
theorem dOr_i (i j : Int) : dOr (.int i) (.int j) = .ok (.int (Builtin.bitOr i j)) := rfl
theorem dXor_i (i j : Int) : dXor (.int i) (.int j) = .ok (.int (Builtin.bitXor i j)) := rfl
theorem eqOk_int (i : Int) : eqOk (.int i) = true := rfl
theorem eqOk_non : eqOk .non = true := by decide
theorem eqOk_bl (b : Bool) : eqOk (.bl b) = true := by cases b <;> decide
theorem dEq_i (i j : Int) : dEq (.int i) (.int j) = .ok (.bl (decide (i = j))) := by
  unfold dEq
  rw [eqOk_int, eqOk_int]
  show R.ok (D.bl (i == j)) = _
  rw [Bool.beq_eq_decide_eq]
theorem dNe_i (i j : Int) : dNe (.int i) (.int j) = .ok (.bl (!decide (i = j))) := by
  unfold dNe
  rw [eqOk_int, eqOk_int]
  show R.ok (D.bl (!(i == j))) = _
  rw [Bool.beq_eq_decide_eq]
theorem dIsi_ii (i : Int) : dIsi "int" (.int i) = .ok (.bl true) := by
  have h : kitB "int" "int" = some true := by decide +kernel
  unfold dIsi tyName
  simp only [h]
theorem dIsi_bi (i : Int) : dIsi "bool" (.int i) = .ok (.bl false) := by
  have h : kitB "int" "bool" = some false := by decide +kernel
  unfold dIsi tyName
  simp only [h]
theorem dIsi_tt (ds : List D) : dIsi "tuple" (.tup ds) = .ok (.bl true) := by
  have h : kitB "tuple" "tuple" = some true := by decide +kernel
  unfold dIsi tyName
  simp only [h]
theorem dMax_ii (i j : Int) : dMax [.int i, .int j] = .ok (.int (max i j)) := rfl
theorem dMin_ii (i j : Int) : dMin [.int i, .int j] = .ok (.int (min i j)) := rfl
theorem dInts_all (ns : List Int) : (ns.map D.int).all nlB = true := by
  rw [List.all_eq_true]
  intro d hd
  obtain ⟨n, _, rfl⟩ := List.mem_map.mp hd
  rfl
theorem dList_ints {nl : Bool} (ns : List Int) : dList nl [.lst (ns.map .int)] = .ok (.lst (ns.map .int)) := if_pos fun _ => dInts_all ns
theorem dTuple_ints {nl : Bool} (ns : List Int) : dTuple nl [.lst (ns.map .int)] = .ok (.tup (ns.map .int)) := if_pos fun _ => dInts_all ns
theorem dTuple_f (ds : List D) : dTuple false [.lst ds] = .ok (.tup ds) := by
  show (if false = true → ds.all nlB = true then R.ok (D.tup ds) else R.bad) = _
  rw [if_pos (show false = true → ds.all nlB = true from fun h => by cases h)]
theorem dList_f (ds : List D) : dList false [.lst ds] = .ok (.lst ds) := by
  show (if false = true → ds.all nlB = true then R.ok (D.lst ds) else R.bad) = _
  rw [if_pos (show false = true → ds.all nlB = true from fun h => by cases h)]
theorem dTuple_t {nl : Bool} (ds : List D) : dTuple nl [.tup ds] = .ok (.tup ds) := rfl
theorem dList_t {nl : Bool} (ds : List D) : dList nl [.tup ds] = .ok (.lst ds) := rfl
theorem dAdd_ints {ns ms : List Int} (h : ns.length + ms.length ≤ sizeLine) : dAdd (.lst (ns.map .int)) (.lst (ms.map .int)) = .ok (.lst ((ns ++ ms).map .int)) := by
  rw [List.map_append]
  exact if_pos ⟨dInts_all ns, dInts_all ms, by rw [List.length_map, List.length_map]; exact h⟩
theorem dLst_s {ds : List D} (h : ds.length ≤ sizeLine) : dLst ds = .ok (.lst ds) := if_pos h
theorem dTup_s {ds : List D} (h : ds.length ≤ sizeLine) : dTup ds = .ok (.tup ds) := if_pos h
theorem atI_map {α β : Type} (f : α → β) (xs : List α) (i : Int) : atI (xs.map f) i = (atI xs i).map f := by
  unfold atI
  rw [List.length_map]
  cases ixN xs.length i with
  | none => rfl
  | some j => show (xs.map f)[j]? = xs[j]?.map f; rw [List.getElem?_map]
theorem atI_in {α : Type} {xs : List α} {i : Int} (h : 0 ≤ i) (h' : i < xs.length) : atI xs i = some (xs[i.toNat]'(by omega)) := by
  unfold atI ixN
  rw [if_pos h, if_pos h']
  show xs[i.toNat]? = _
  rw [List.getElem?_eq_getElem]
theorem forL_inv {P : List D → Prop} {step : D → List D → R Fl} : ∀ {ds : List D}, (∀ d ∈ ds, ∀ ρ, P ρ → ∃ ρ', step d ρ = .ok (.nx ρ') ∧ P ρ') → ∀ ρ, P ρ → ∃ ρ', forL step ds ρ = .ok (.nx ρ') ∧ P ρ'
  | [], _, ρ, h => ⟨ρ, rfl, h⟩
  | d :: ds, hs, ρ, h => by
    obtain ⟨ρ1, e1, h1⟩ := hs d List.mem_cons_self ρ h
    obtain ⟨ρ2, e2, h2⟩ := forL_inv (fun d hd => hs d (List.mem_cons_of_mem _ hd)) ρ1 h1
    refine ⟨ρ2, ?_, h2⟩
    show (step d ρ >>= _) = _
    rw [e1]
    exact e2
/-- a fold -/
theorem forL_fold {σ : Type} {enc : σ → List D} {α : Type} {f : σ → α → σ} {ed : α → D} {step : D → List D → R Fl} : ∀ {xs : List α} {s : σ}, (∀ x ∈ xs, ∀ s, step (ed x) (enc s) = .ok (.nx (enc (f s x)))) → forL step (xs.map ed) (enc s) = .ok (.nx (enc (xs.foldl f s)))
  | [], _, _ => rfl
  | x :: xs, s, h => by
    show (step (ed x) (enc s) >>= _) = _
    rw [h x List.mem_cons_self s]
    exact forL_fold fun y hy => h y (List.mem_cons_of_mem _ hy)
/-- a fold under a condition -/
theorem forL_foldP {σ : Type} {P : σ → Prop} {enc : σ → List D} {α : Type} {f : σ → α → σ} {ed : α → D} {step : D → List D → R Fl} : ∀ {xs : List α} {s : σ}, P s → (∀ x ∈ xs, ∀ s, P s → step (ed x) (enc s) = .ok (.nx (enc (f s x))) ∧ P (f s x)) → forL step (xs.map ed) (enc s) = .ok (.nx (enc (xs.foldl f s))) ∧ P (xs.foldl f s)
  | [], _, p, _ => ⟨rfl, p⟩
  | x :: xs, s, p, h => by
    obtain ⟨e, p'⟩ := h x List.mem_cons_self s p
    have ih := forL_foldP p' fun y hy => h y (List.mem_cons_of_mem _ hy)
    refine ⟨?_, ih.2⟩
    show (step (ed x) (enc s) >>= _) = _
    rw [e]
    exact ih.1
/-- it goes on, and P holds then -/
def Stp (b : List D → R Fl) (ρ : List D) (P : List D → Prop) : Prop := ∃ ρ', b ρ = .ok (.nx ρ') ∧ P ρ'
theorem Stp.seq {a b : List D → R Fl} {ρ ρ1 : List D} {P : List D → Prop} (h : a ρ = .ok (.nx ρ1)) (h2 : Stp b ρ1 P) : Stp (gSeq a b) ρ P := by
  obtain ⟨ρ', e, p⟩ := h2
  refine ⟨ρ', ?_, p⟩
  unfold gSeq
  rw [h]
  exact e
theorem Stp.bind {a b : List D → R Fl} {ρ : List D} {P Q : List D → Prop} (h : Stp a ρ Q) (h2 : ∀ ρ1, Q ρ1 → Stp b ρ1 P) : Stp (gSeq a b) ρ P := by
  obtain ⟨ρ1, e, q⟩ := h
  exact Stp.seq e (h2 ρ1 q)
theorem Stp.done {a : List D → R Fl} {ρ ρ1 : List D} {P : List D → Prop} (h : a ρ = .ok (.nx ρ1)) (p : P ρ1) : Stp a ρ P := ⟨ρ1, h, p⟩
theorem gFor_inv {P : List D → Prop} {src : List D → R (List D)} {gt : D → List D → Option (List D)} {body : List D → R Fl} {ρ : List D} {ds : List D} (hs : src ρ = .ok ds) (hp : P ρ)
    (h : ∀ d ∈ ds, ∀ ρ, P ρ → ∃ ρ1, gt d ρ = some ρ1 ∧ Stp body ρ1 P) : Stp (gFor src gt body) ρ P := by
  unfold Stp gFor
  rw [hs]
  refine forL_inv (fun d hd ρ hp => ?_) ρ hp
  obtain ⟨ρ1, h1, ρ', h2, h3⟩ := h d hd ρ hp
  refine ⟨ρ', ?_, h3⟩
  rw [h1]
  exact h2
theorem gSeq_nx {a b : List D → R Fl} {ρ ρ' : List D} (h : a ρ = .ok (.nx ρ')) : gSeq a b ρ = b ρ' := by
  unfold gSeq
  rw [h]
  rfl
theorem gSeq_ex {a b : List D → R Fl} {ρ : List D} {r : R D} {P : List D → Prop} (h : Stp a ρ P) (h2 : ∀ ρ', P ρ' → (b ρ' >>= finF) = r) : (gSeq a b ρ >>= finF) = r := by
  obtain ⟨ρ', e, p⟩ := h
  rw [gSeq_nx e]
  exact h2 ρ' p
theorem mapL_map {α : Type} {ed : α → D} {f : D → R (Option D)} {h : α → D} : ∀ {xs : List α}, (∀ x ∈ xs, f (ed x) = .ok (some (h x))) → mapL f (xs.map ed) = .ok (xs.map h)
  | [], _ => rfl
  | x :: xs, hx => by
    show (f (ed x) >>= _) = _
    rw [hx x List.mem_cons_self]
    show (mapL f (xs.map ed) >>= _) = _
    rw [mapL_map fun y hy => hx y (List.mem_cons_of_mem _ hy)]
    rfl
theorem mapL_filter {α : Type} {ed : α → D} {f : D → R (Option D)} {h : α → Option D} : ∀ {xs : List α}, (∀ x ∈ xs, f (ed x) = .ok (h x)) → mapL f (xs.map ed) = .ok (xs.filterMap h)
  | [], _ => rfl
  | x :: xs, hx => by
    show (f (ed x) >>= _) = _
    rw [hx x List.mem_cons_self]
    show (mapL f (xs.map ed) >>= _) = _
    rw [mapL_filter fun y hy => hx y (List.mem_cons_of_mem _ hy)]
    show R.ok _ = _
    rw [List.filterMap_cons]
    cases h x <;> rfl

/-! ### == of data -/
mutual
inductive OkD : Nat → D → Prop
  | non {k : Nat} : OkD k .non
  | bl {k : Nat} (b : Bool) : OkD k (.bl b)
  | int {k : Nat} (i : Int) : OkD k (.int i)
  | str {k : Nat} {x : Str} : PyData.strOk x = true → OkD k (.str x)
  | tup {k : Nat} {ds : List D} : OkDs k ds → OkD (k + 1) (.tup ds)
  | lst {k : Nat} {ds : List D} : OkDs k ds → OkD (k + 1) (.lst ds)
inductive OkDs : Nat → List D → Prop
  | nil {k : Nat} : OkDs k []
  | cons {k : Nat} {d : D} {ds : List D} : OkD k d → OkDs k ds → OkDs k (d :: ds)
end
theorem OkDs.of {k : Nat} : ∀ {ds : List D}, (∀ d ∈ ds, OkD k d) → OkDs k ds
  | [], _ => .nil
  | d :: ds, h => .cons (h d List.mem_cons_self) (OkDs.of fun e he => h e (List.mem_cons_of_mem _ he))
mutual
theorem OkD.p : ∀ {k : Nat} {d : D}, OkD k d → pln d = true ∧ PyData.canLay0 (toP d) = true ∧ (toP d).depth ≤ k
  | _, _, .non => ⟨rfl, rfl, Nat.zero_le _⟩
  | _, _, .bl b => ⟨rfl, rfl, Nat.zero_le _⟩
  | _, _, .int i => ⟨rfl, rfl, Nat.zero_le _⟩
  | _, _, .str h => ⟨rfl, h, Nat.zero_le _⟩
  | _, _, .tup h => by
    obtain ⟨h1, h2, h3⟩ := OkDs.p h
    exact ⟨h1, h2, Nat.succ_le_succ h3⟩
  | _, _, .lst h => by
    obtain ⟨h1, h2, h3⟩ := OkDs.p h
    exact ⟨h1, h2, Nat.succ_le_succ h3⟩
theorem OkDs.p : ∀ {k : Nat} {ds : List D}, OkDs k ds → plns ds = true ∧ PyData.canLayAll0 (toPs ds) = true ∧ PyData.depthAll (toPs ds) ≤ k
  | _, _, .nil => ⟨rfl, rfl, Nat.zero_le _⟩
  | _, _, .cons h hs => by
    obtain ⟨h1, h2, h3⟩ := OkD.p h
    obtain ⟨g1, g2, g3⟩ := OkDs.p hs
    exact ⟨Bool.and_eq_true_iff.mpr ⟨h1, g1⟩, Bool.and_eq_true_iff.mpr ⟨h2, g2⟩, Nat.max_le.mpr ⟨h3, g3⟩⟩
end
theorem OkD.eqOk {d : D} (h : OkD 64 d) : eqOk d = true := by
  obtain ⟨h1, h2, h3⟩ := h.p
  unfold DL.eqOk SeqAt.shaped
  rw [h1, h2, decide_eq_true h3]
  rfl
mutual
theorem OkD.mono : ∀ {k l : Nat} {d : D}, OkD k d → k ≤ l → OkD l d
  | _, _, _, .non, _ => .non
  | _, _, _, .bl b, _ => .bl b
  | _, _, _, .int i, _ => .int i
  | _, _, _, .str h, _ => .str h
  | _, l + 1, _, .tup h, e => .tup (OkDs.mono h (Nat.le_of_succ_le_succ e))
  | _, l + 1, _, .lst h, e => .lst (OkDs.mono h (Nat.le_of_succ_le_succ e))
theorem OkDs.mono : ∀ {k l : Nat} {ds : List D}, OkDs k ds → k ≤ l → OkDs l ds
  | _, _, _, .nil, _ => .nil
  | _, _, _, .cons h hs, e => .cons (OkD.mono h e) (OkDs.mono hs e)
end
theorem OkDs.ints {k : Nat} (ns : List Int) : OkDs k (ns.map .int) := .of fun d hd => by
  obtain ⟨n, _, rfl⟩ := List.mem_map.mp hd
  exact .int n
mutual
theorem eqv_self : ∀ {d : PyData}, PyData.canLay0 d = true → PyData.eqv d d = true
  | .none, _ => rfl
  | .bool b, _ => by cases b <;> rfl
  | .int i, _ => by show (i == i) = true; simp
  | .str x, _ => by show (x == x) = true; simp
  | .list xs, h => eqv_selfs (ds := xs) h
  | .tuple xs, h => eqv_selfs (ds := xs) h
  | .dict _, h => nomatch h
theorem eqv_selfs : ∀ {ds : List PyData}, PyData.canLayAll0 ds = true → PyData.eqvAll ds ds = true
  | [], _ => rfl
  | d :: ds, h => by
    obtain ⟨h1, h2⟩ := Bool.and_eq_true_iff.mp (show (PyData.canLay0 d && PyData.canLayAll0 ds) = true from h)
    show (PyData.eqv d d && PyData.eqvAll ds ds) = true
    rw [eqv_self h1, eqv_selfs h2]
    rfl
end
theorem dEq_self {d : D} (h : OkD 64 d) : dEq d d = .ok (.bl true) := by
  unfold dEq
  rw [h.eqOk, eqv_self h.p.2.1]
  rfl
theorem dNe_self {d : D} (h : OkD 64 d) : dNe d d = .ok (.bl false) := by
  unfold dNe
  rw [h.eqOk, eqv_self h.p.2.1]
  rfl
theorem dEq_of {d e : D} (h : OkD 64 d) (q : d = e) : dEq d e = .ok (.bl true) := by subst q; exact dEq_self h
theorem dNe_of {d e : D} (h : OkD 64 d) (q : d = e) : dNe d e = .ok (.bl false) := by subst q; exact dNe_self h
/-! ### while -/
theorem whL_inv {c : List D → R Bool} {body : List D → R Fl} {I : List D → Prop} {μ : List D → Nat} (h : ∀ ρ, I ρ → c ρ = .ok false ∨ (c ρ = .ok true ∧ ∃ ρ', body ρ = .ok (.nx ρ') ∧ I ρ' ∧ μ ρ' < μ ρ)) :
    ∀ (n : Nat) (ρ : List D), I ρ → μ ρ < n → ∃ ρ', whL c body n ρ = .ok (.nx ρ') ∧ I ρ' ∧ c ρ' = .ok false
  | 0, _, _, hn => absurd hn (Nat.not_lt_zero _)
  | n + 1, ρ, hI, hn => by
    rcases h ρ hI with e | ⟨e, ρ', e2, hI', hm⟩
    · refine ⟨ρ, ?_, hI, e⟩
      show (c ρ >>= _) = _
      rw [e]
      rfl
    · obtain ⟨ρ2, h1, h2, h3⟩ := whL_inv h n ρ' hI' (by omega)
      refine ⟨ρ2, ?_, h2, h3⟩
      show (c ρ >>= _) = _
      rw [e]
      show (body ρ >>= _) = _
      rw [e2]
      exact h1
theorem gWhile_inv {fuel : List D → Nat} {c : List D → R Bool} {body : List D → R Fl} {ρ : List D} (I : List D → Prop) (μ : List D → Nat) (h0 : I ρ) (hf : μ ρ < fuel ρ)
    (h : ∀ ρ, I ρ → c ρ = .ok false ∨ (c ρ = .ok true ∧ ∃ ρ', body ρ = .ok (.nx ρ') ∧ I ρ' ∧ μ ρ' < μ ρ)) : Stp (gWhile fuel c body) ρ fun ρ' => I ρ' ∧ c ρ' = .ok false := whL_inv h _ ρ h0 hf
theorem intBits_pos {i : Int} (h : 0 < i) : Builtin.Int.intBits i = i.natAbs.log2 + 1 := by
  unfold Builtin.Int.intBits
  have e : (i == 0) = false := beq_eq_false_iff_ne.mpr (by omega)
  first
    | rw [if_neg (by omega)]
    | simp [e]
    | (split <;> omega)
theorem dRng1_s {j : Int} (h : 0 ≤ j) (h' : j ≤ 16777216) : dRng1 [.int j] = .ok (intsFrom 0 1 j.toNat) := by
  have e : sizeLine = 16777216 := sizeLine_eq
  exact if_pos ⟨by omega, by omega⟩
/-! ### loops by index -/
theorem forL_idx {P : Nat → List D → Prop} {step : D → List D → R Fl} : ∀ {ds : List D} {i : Nat}, (∀ (j : Nat) (d : D), ds[j]? = some d → ∀ ρ, P (i + j) ρ → ∃ ρ', step d ρ = .ok (.nx ρ') ∧ P (i + j + 1) ρ') → ∀ ρ, P i ρ → ∃ ρ', forL step ds ρ = .ok (.nx ρ') ∧ P (i + ds.length) ρ'
  | [], _, _, ρ, h => ⟨ρ, rfl, h⟩
  | d :: ds, i, hs, ρ, h => by
    obtain ⟨ρ1, e1, h1⟩ := hs 0 d rfl ρ h
    obtain ⟨ρ2, e2, h2⟩ := forL_idx (ds := ds) (i := i + 1) (fun j d hd ρ hp => by
      have e : i + 1 + j = i + (j + 1) := by omega
      rw [e] at hp ⊢
      exact hs (j + 1) d hd ρ hp) ρ1 h1
    refine ⟨ρ2, ?_, ?_⟩
    · show (step d ρ >>= _) = _
      rw [e1]
      exact e2
    · have e : i + (d :: ds).length = i + 1 + ds.length := by rw [List.length_cons]; omega
      rw [e]
      exact h2
theorem gFor_idx {P : Nat → List D → Prop} {src : List D → R (List D)} {gt : D → List D → Option (List D)} {body : List D → R Fl} {ρ : List D} {ds : List D} (hs : src ρ = .ok ds) (hp : P 0 ρ)
    (h : ∀ (i : Nat) (d : D), ds[i]? = some d → ∀ ρ, P i ρ → ∃ ρ1, gt d ρ = some ρ1 ∧ Stp body ρ1 (P (i + 1))) : Stp (gFor src gt body) ρ (P ds.length) := by
  unfold Stp gFor
  rw [hs]
  obtain ⟨ρ', e, p⟩ := forL_idx (P := P) (step := fun d ρ => oR (gt d ρ) >>= body) (ds := ds) (i := 0) (fun j d hd ρ hp => by
    rw [Nat.zero_add] at hp ⊢
    obtain ⟨ρ1, h1, ρ', h2, h3⟩ := h j d hd ρ hp
    refine ⟨ρ', ?_, h3⟩
    rw [h1]
    exact h2) ρ hp
  rw [Nat.zero_add] at p
  exact ⟨ρ', e, p⟩
theorem intsFrom_at {lo c : Int} {n i : Nat} {d : D} (h : (intsFrom lo c n)[i]? = some d) : d = .int (lo + i * c) ∧ i < n := by
  have hi : i < n := by
    have := (List.getElem?_eq_some_iff.mp h).1
    rw [intsFrom_len] at this
    exact this
  rw [intsFrom_get hi] at h
  exact ⟨(Option.some.inj h).symm, hi⟩
/-- for i in range(n): the index is counted from 0 -/
theorem gFor_rng {P : Nat → List D → Prop} {src : List D → R (List D)} {gt : D → List D → Option (List D)} {body : List D → R Fl} {ρ : List D} {lo c : Int} {n : Nat} (hs : src ρ = .ok (intsFrom lo c n)) (hp : P 0 ρ)
    (h : ∀ (i : Nat), i < n → ∀ ρ, P i ρ → ∃ ρ1, gt (.int (lo + i * c)) ρ = some ρ1 ∧ Stp body ρ1 (P (i + 1))) : Stp (gFor src gt body) ρ (P n) := by
  have := gFor_idx (P := P) hs hp fun i d hd ρ hp => by
    obtain ⟨e, hi⟩ := intsFrom_at hd
    subst e
    exact h i hi ρ hp
  rw [intsFrom_len] at this
  exact this
theorem Stp.mono {b : List D → R Fl} {ρ : List D} {P Q : List D → Prop} (h : Stp b ρ P) (i : ∀ ρ', P ρ' → Q ρ') : Stp b ρ Q := by
  obtain ⟨ρ', e, p⟩ := h
  exact ⟨ρ', e, i ρ' p⟩
theorem Stp.ite {c : List D → R Bool} {a b : List D → R Fl} {ρ : List D} {P : List D → Prop} {k : Bool} (h : c ρ = .ok k) (h1 : k = true → Stp a ρ P) (h2 : k = false → Stp b ρ P) : Stp (gIte c a b) ρ P := by
  unfold Stp gIte
  rw [h]
  cases k with
  | true => exact h1 rfl
  | false => exact h2 rfl
theorem Stp.nx {ρ : List D} {P : List D → Prop} (p : P ρ) : Stp gNx ρ P := ⟨ρ, rfl, p⟩
theorem lg_spec {n : Int} (h : 0 < n) : ((2 ^ n.natAbs.log2 : Nat) : Int) ≤ n ∧ n < ((2 ^ (n.natAbs.log2 + 1) : Nat) : Int) := by
  have a := Nat.log2_self_le (show n.natAbs ≠ 0 by omega)
  have b := Nat.lt_log2_self (n := n.natAbs)
  omega
theorem lg_uniq {n : Int} {k : Nat} (h : ((2 ^ k : Nat) : Int) ≤ n) (h' : n < ((2 ^ (k + 1) : Nat) : Int)) : n.natAbs.log2 = k := by
  have p : 0 < 2 ^ k := Nat.two_pow_pos k
  have z : n.natAbs ≠ 0 := by omega
  have a : k ≤ n.natAbs.log2 := (Nat.le_log2 z).mpr (by omega)
  have b : n.natAbs.log2 < k + 1 := (Nat.log2_lt z).mpr (by omega)
  omega
theorem lg_lt {n : Int} {k : Nat} (h : 0 < n) (h' : n < ((2 ^ k : Nat) : Int)) : n.natAbs.log2 < k := (Nat.log2_lt (by omega)).mpr (by omega)
/-! ### slices, ranges with a step -/
theorem sIx_s {n d : Nat} {k : Int} (h : 0 ≤ k) : HT.sIx n d (some k) = min k.toNat n := by
  show (if k < 0 then _ else _) = _
  rw [if_neg (by omega)]
theorem cutD_to {α : Type} (xs : List α) {k : Int} (h : 0 ≤ k) : cutD xs none (some k) = xs.take k.toNat := by
  unfold cutD
  rw [sIx_s h, show HT.sIx xs.length 0 none = 0 from rfl, List.drop_zero, Nat.sub_zero, ← List.take_take, List.take_length]
theorem cutD_from {α : Type} (xs : List α) {k : Int} (h : 0 ≤ k) : cutD xs (some k) none = xs.drop k.toNat := by
  unfold cutD
  rw [sIx_s h, show HT.sIx xs.length xs.length none = xs.length from rfl]
  by_cases c : k.toNat ≤ xs.length
  · rw [Nat.min_eq_left c]
    exact List.take_of_length_le (by rw [List.length_drop]; omega)
  · rw [Nat.min_eq_right (by omega), Nat.sub_self, List.take_zero, List.drop_of_length_le (by omega)]
theorem cutD_at {α : Type} (xs : List α) {i j : Int} (h : 0 ≤ i) (h' : i ≤ j) : cutD xs (some i) (some j) = (xs.drop i.toNat).take (j.toNat - i.toNat) := by
  unfold cutD
  rw [sIx_s h, sIx_s (show 0 ≤ j by omega)]
  by_cases c : i.toNat ≤ xs.length
  · rw [Nat.min_eq_left c]
    by_cases c2 : j.toNat ≤ xs.length
    · rw [Nat.min_eq_left c2]
    · rw [Nat.min_eq_right (by omega), List.take_of_length_le (by rw [List.length_drop]; omega), List.take_of_length_le (by rw [List.length_drop]; omega)]
  · rw [Nat.min_eq_right (show xs.length ≤ i.toNat by omega), List.drop_of_length_le (Nat.le_refl _), List.drop_of_length_le (by omega), List.take_nil, List.take_nil]
theorem cutD_map {α β : Type} (f : α → β) (xs : List α) (lo hi : Option Int) : cutD (xs.map f) lo hi = (cutD xs lo hi).map f := by
  unfold cutD
  rw [List.length_map, ← List.map_drop, ← List.map_take]
theorem dSl_l {ds : List D} {lo hi : Option Int} : dSl false (.lst ds) lo hi = .ok (.lst (cutD ds lo hi)) := by
  show (if false = true → ds.all nlB = true then R.ok (D.lst (cutD ds lo hi)) else R.bad) = _
  rw [if_pos (show false = true → ds.all nlB = true from fun h => by cases h)]
theorem dSl_t {nl : Bool} {ds : List D} {lo hi : Option Int} : dSl nl (.tup ds) lo hi = .ok (.tup (cutD ds lo hi)) := rfl
theorem dRng3_s {i j c : Int} (h1 : 0 ≤ i) (h2 : i ≤ 16777216) (h3 : 0 ≤ j) (h4 : j ≤ 16777216) (h5 : 0 < c) (h6 : c ≤ 1000000) : dRng3 [.int i, .int j, .int c] = .ok (intsFrom i c (if i < j then ((j - i - 1) / c + 1).toNat else 0)) := by
  have e : sizeLine = 16777216 := sizeLine_eq
  have hd : 0 ≤ (j - i - 1) / c ∨ ¬ i < j := by
    by_cases q : i < j
    · exact .inl (Int.ediv_nonneg (by omega) (by omega))
    · exact .inr q
  have hd2 : i < j → (j - i - 1) / c ≤ j - i - 1 := fun q => Int.ediv_le_self _ (by omega)
  have hr : Builtin.Range.rangeSize i j c = if i < j then (j - i - 1) / c + 1 else 0 := by
    unfold Builtin.Range.rangeSize
    rw [if_pos (by omega)]
  have hz : (Builtin.Range.rangeSize i j c).toNat = if i < j then ((j - i - 1) / c + 1).toNat else 0 := by
    rw [hr]
    split <;> rfl
  show (if RgC i j c (Builtin.Range.rangeSize i j c).toNat ∧ (Builtin.Range.rangeSize i j c).toNat ≤ sizeLine then R.ok (intsFrom i c (Builtin.Range.rangeSize i j c).toNat) else .bad) = _
  rw [if_pos, hz]
  refine ⟨⟨by omega, by omega, ?_, ?_⟩, ?_⟩
  · unfold Builtin.Range.small
    rw [hr]
    have hb : (if i < j then (j - i - 1) / c + 1 else 0) ≤ 16777216 ∧ 0 ≤ (if i < j then (j - i - 1) / c + 1 else 0) := by split <;> omega
    generalize (if i < j then (j - i - 1) / c + 1 else 0) = z at hb
    simp only [Builtin.Range.rangeFitsLong, Bool.and_eq_true, Bool.or_eq_true, decide_eq_true_eq, beq_iff_eq, gt_iff_lt, h5, if_true]
    refine ⟨⟨⟨⟨?_, ?_⟩, ?_, ?_⟩, ?_, ?_⟩, ?_⟩ <;> omega
  · rw [hr]
    split <;> omega
  · rw [hz]
    split
    · have := hd2 (by assumption); omega
    · omega
theorem mapL_ex {α β : Type} {ed : α → D} {f : D → R (Option D)} {e : β → D} {Q : β → Prop} : ∀ {xs : List α}, (∀ x ∈ xs, ∃ y, Q y ∧ f (ed x) = .ok (some (e y))) → ∃ ys : List β, ys.length = xs.length ∧ (∀ y ∈ ys, Q y) ∧ mapL f (xs.map ed) = .ok (ys.map e)
  | [], _ => ⟨[], rfl, (fun _ h => nomatch h), rfl⟩
  | x :: xs, h => by
    obtain ⟨y, hy, e1⟩ := h x List.mem_cons_self
    obtain ⟨ys, h1, h2, h3⟩ := mapL_ex (xs := xs) fun z hz => h z (List.mem_cons_of_mem _ hz)
    refine ⟨y :: ys, by rw [List.length_cons, List.length_cons, h1], fun z hz => ?_, ?_⟩
    · rcases List.mem_cons.mp hz with q | q
      · rw [q]; exact hy
      · exact h2 z q
    · show (f (ed x) >>= _) = _
      rw [e1]
      show (mapL f (xs.map ed) >>= _) = _
      rw [h3]
      rfl
theorem dAugAdd_i (i j : Int) : dAugAdd (.int i) (.int j) = .ok (.int (i + j)) := rfl
theorem dAugSub_i (i j : Int) : dAugSub (.int i) (.int j) = .ok (.int (i - j)) := rfl
theorem dAugBitXor_i (i j : Int) : dAugBitXor (.int i) (.int j) = .ok (.int (Builtin.bitXor i j)) := rfl
theorem ix_int {xs : List Int} {i : Int} (h : 0 ≤ i) (h' : i < xs.length) : dIx (.lst (xs.map .int)) (.int i) = .ok (.int (xs.getD i.toNat 0)) := by
  show oR (atI (xs.map D.int) i) = _
  rw [atI_map, atI_in h h']
  show R.ok (D.int _) = _
  rw [List.getD_eq_getElem?_getD, List.getElem?_eq_getElem]
  rfl
theorem ixT_int {xs : List Int} {i : Int} (h : 0 ≤ i) (h' : i < xs.length) : dIx (.tup (xs.map .int)) (.int i) = .ok (.int (xs.getD i.toNat 0)) := by
  show oR (atI (xs.map D.int) i) = _
  rw [atI_map, atI_in h h']
  show R.ok (D.int _) = _
  rw [List.getD_eq_getElem?_getD, List.getElem?_eq_getElem]
  rfl
/-- an item of xs.map f by its number -/
theorem ixT_map {α : Type} (f : α → D) (x0 : α) {xs : List α} {i : Int} (h : 0 ≤ i) (h' : i < xs.length) : dIx (.tup (xs.map f)) (.int i) = .ok (f (xs.getD i.toNat x0)) := by
  show oR (atI (xs.map f) i) = _
  rw [atI_map, atI_in h h']
  show R.ok (f _) = _
  rw [List.getD_eq_getElem?_getD, List.getElem?_eq_getElem]
  rfl
theorem getD_map {α : Type} {f : α → D} (x0 : α) {xs : List α} {i : Nat} {d : D} (h : (xs.map f)[i]? = some d) : d = f (xs.getD i x0) ∧ i < xs.length ∧ xs.getD i x0 ∈ xs := by
  rw [List.getElem?_map] at h
  cases q : xs[i]? with
  | none => rw [q] at h; cases h
  | some n =>
    rw [q] at h
    cases h
    have e : xs.getD i x0 = n := by rw [List.getD_eq_getElem?_getD, q]; rfl
    rw [e]
    exact ⟨rfl, (List.getElem?_eq_some_iff.mp q).1, List.mem_of_getElem? q⟩
theorem dTuple_tups {α : Type} {nl : Bool} (f : α → List D) (xs : List α) : dTuple nl [.lst (xs.map fun x => .tup (f x))] = .ok (.tup (xs.map fun x => .tup (f x))) := if_pos fun _ => by
  rw [List.all_eq_true]
  intro d hd
  obtain ⟨n, _, rfl⟩ := List.mem_map.mp hd
  rfl
end DL
/-! DLt: what is wanted behind a run over data: rules of a weakest condition. -/
namespace DL
open PySem L2

theorem dNe_p (i j : Int) : dNe (.int i) (.int j) = .ok (.bl (decide (i ≠ j))) := by rw [dNe_i, decide_not]
theorem dRng2_s {i j : Int} (h1 : 0 ≤ i) (h2 : i ≤ 16777216) (h3 : 0 ≤ j) (h4 : j ≤ 16777216) : dRng2 [.int i, .int j] = .ok (intsFrom i 1 (j - i).toNat) := by
  have e : sizeLine = 16777216 := sizeLine_eq
  exact if_pos ⟨⟨by omega, by omega, by omega, by omega⟩, by omega⟩
theorem rng1N {n : Nat} (h : n ≤ 16777216) : dRng1 [.int n] = .ok (intsFrom 0 1 n) := by rw [dRng1_s (by omega) (by omega), Int.toNat_natCast]
theorem dLst_0 : dLst [] = .ok (.lst []) := dLst_s (Nat.zero_le _)
theorem dTup_0 : dTup [] = .ok (.tup []) := dTup_s (Nat.zero_le _)
theorem dLst_1 (a0 : D) : dLst [a0] = .ok (.lst [a0]) := dLst_s (show 1 ≤ sizeLine by decide)
theorem dTup_1 (a0 : D) : dTup [a0] = .ok (.tup [a0]) := dTup_s (show 1 ≤ sizeLine by decide)
theorem dLst_2 (a0 a1 : D) : dLst [a0, a1] = .ok (.lst [a0, a1]) := dLst_s (show 2 ≤ sizeLine by decide)
theorem dTup_2 (a0 a1 : D) : dTup [a0, a1] = .ok (.tup [a0, a1]) := dTup_s (show 2 ≤ sizeLine by decide)
theorem dLst_3 (a0 a1 a2 : D) : dLst [a0, a1, a2] = .ok (.lst [a0, a1, a2]) := dLst_s (show 3 ≤ sizeLine by decide)
theorem dTup_3 (a0 a1 a2 : D) : dTup [a0, a1, a2] = .ok (.tup [a0, a1, a2]) := dTup_s (show 3 ≤ sizeLine by decide)
theorem dLst_4 (a0 a1 a2 a3 : D) : dLst [a0, a1, a2, a3] = .ok (.lst [a0, a1, a2, a3]) := dLst_s (show 4 ≤ sizeLine by decide)
theorem dTup_4 (a0 a1 a2 a3 : D) : dTup [a0, a1, a2, a3] = .ok (.tup [a0, a1, a2, a3]) := dTup_s (show 4 ≤ sizeLine by decide)
theorem dLst_5 (a0 a1 a2 a3 a4 : D) : dLst [a0, a1, a2, a3, a4] = .ok (.lst [a0, a1, a2, a3, a4]) := dLst_s (show 5 ≤ sizeLine by decide)
theorem dTup_5 (a0 a1 a2 a3 a4 : D) : dTup [a0, a1, a2, a3, a4] = .ok (.tup [a0, a1, a2, a3, a4]) := dTup_s (show 5 ≤ sizeLine by decide)
theorem dLst_6 (a0 a1 a2 a3 a4 a5 : D) : dLst [a0, a1, a2, a3, a4, a5] = .ok (.lst [a0, a1, a2, a3, a4, a5]) := dLst_s (show 6 ≤ sizeLine by decide)
theorem dTup_6 (a0 a1 a2 a3 a4 a5 : D) : dTup [a0, a1, a2, a3, a4, a5] = .ok (.tup [a0, a1, a2, a3, a4, a5]) := dTup_s (show 6 ≤ sizeLine by decide)
theorem dLst_7 (a0 a1 a2 a3 a4 a5 a6 : D) : dLst [a0, a1, a2, a3, a4, a5, a6] = .ok (.lst [a0, a1, a2, a3, a4, a5, a6]) := dLst_s (show 7 ≤ sizeLine by decide)
theorem dTup_7 (a0 a1 a2 a3 a4 a5 a6 : D) : dTup [a0, a1, a2, a3, a4, a5, a6] = .ok (.tup [a0, a1, a2, a3, a4, a5, a6]) := dTup_s (show 7 ≤ sizeLine by decide)
theorem dLst_8 (a0 a1 a2 a3 a4 a5 a6 a7 : D) : dLst [a0, a1, a2, a3, a4, a5, a6, a7] = .ok (.lst [a0, a1, a2, a3, a4, a5, a6, a7]) := dLst_s (show 8 ≤ sizeLine by decide)
theorem dTup_8 (a0 a1 a2 a3 a4 a5 a6 a7 : D) : dTup [a0, a1, a2, a3, a4, a5, a6, a7] = .ok (.tup [a0, a1, a2, a3, a4, a5, a6, a7]) := dTup_s (show 8 ≤ sizeLine by decide)
theorem dLst_9 (a0 a1 a2 a3 a4 a5 a6 a7 a8 : D) : dLst [a0, a1, a2, a3, a4, a5, a6, a7, a8] = .ok (.lst [a0, a1, a2, a3, a4, a5, a6, a7, a8]) := dLst_s (show 9 ≤ sizeLine by decide)
theorem dTup_9 (a0 a1 a2 a3 a4 a5 a6 a7 a8 : D) : dTup [a0, a1, a2, a3, a4, a5, a6, a7, a8] = .ok (.tup [a0, a1, a2, a3, a4, a5, a6, a7, a8]) := dTup_s (show 9 ≤ sizeLine by decide)
theorem getD_range {n i : Nat} (h : i < n) : (List.range n).getD i 0 = i := by rw [List.getD_eq_getElem?_getD, List.getElem?_range h]; rfl
/-- it gives a value, and P of it -/
def Ok (r : R D) (P : D → Prop) : Prop := RP r P fun _ => False
theorem Ok.ex {r : R D} {P : D → Prop} (h : Ok r P) : ∃ d, r = .ok d ∧ P d := by
  cases r with
  | ok d => exact ⟨d, rfl, h⟩
  | exc _ => exact h.elim
  | bad => exact h.elim
theorem Ok.of {r : R D} {P : D → Prop} {d : D} (h : r = .ok d) (p : P d) : Ok r P := by subst h; exact p
theorem Ok.eq {r : R D} {d : D} (h : Ok r fun x => x = d) : r = .ok d := by
  obtain ⟨x, e, rfl⟩ := h.ex
  exact e
theorem Ok.mono {r : R D} {P Q : D → Prop} (h : Ok r P) (i : ∀ d, P d → Q d) : Ok r Q := RP.imp h i fun _ z => z
structure Kt where
  nx : List D → Prop
  rt : D → Prop
  bk : List D → Prop
  ct : List D → Prop
  ex : Ex → Prop
@[irreducible] def W (a : List D → R Fl) (ρ : List D) (k : Kt) : Prop :=
  match a ρ with
  | .ok (.nx ρ') => k.nx ρ'
  | .ok (.rt d) => k.rt d
  | .ok (.bk ρ') => k.bk ρ'
  | .ok (.ct ρ') => k.ct ρ'
  | .exc x => k.ex x
  | .bad => False
/-- a def's body -/
def kF (P : D → Prop) (X : Ex → Prop) : Kt := ⟨fun _ => P .non, P, fun _ => False, fun _ => False, X⟩
abbrev kO (P : D → Prop) : Kt := kF P fun _ => False
/-- a loop's body -/
def kL (k : Kt) (I : List D → Prop) : Kt := ⟨I, k.rt, k.nx, I, k.ex⟩
section
variable {a b A B body : List D → R Fl} {c : List D → R Bool} {ρ ρ' : List D} {k : Kt} {d : D} {X g : List D → R D} {src : List D → R (List D)} {gt : D → List D → Option (List D)}
theorem W.nx1 (h : a ρ = .ok (.nx ρ')) (h2 : k.nx ρ') : W a ρ k := by unfold W at *; rw [h]; exact h2
theorem W.step (h : a ρ = .ok (.nx ρ')) (h2 : W b ρ' k) : W (gSeq a b) ρ k := by unfold W at *; unfold gSeq; rw [h]; exact h2
theorem W.seq (h : W a ρ ⟨fun ρ' => W b ρ' k, k.rt, k.bk, k.ct, k.ex⟩) : W (gSeq a b) ρ k := by
  unfold W gSeq at *
  cases e : a ρ with
  | ok fl =>
    rw [e] at h
    cases fl with
    | nx ρ' => exact h
    | rt d => exact h
    | bk d => exact h
    | ct d => exact h
  | exc x => rw [e] at h; exact h
  | bad => rw [e] at h; exact h
theorem W.mono {k' : Kt} (h : W a ρ k) (h1 : ∀ ρ, k.nx ρ → k'.nx ρ) (h2 : ∀ d, k.rt d → k'.rt d) (h3 : ∀ ρ, k.bk ρ → k'.bk ρ) (h4 : ∀ ρ, k.ct ρ → k'.ct ρ) (h5 : ∀ x, k.ex x → k'.ex x) : W a ρ k' := by
  unfold W at *
  cases e : a ρ with
  | ok fl =>
    rw [e] at h
    cases fl with
    | nx ρ' => exact h1 _ h
    | rt d => exact h2 _ h
    | bk d => exact h3 _ h
    | ct d => exact h4 _ h
  | exc x => rw [e] at h; exact h5 _ h
  | bad => rw [e] at h; exact h
/-- a part that goes on, with what is known then -/
theorem W.bind {Q : List D → Prop} (h : Stp a ρ Q) (h2 : ∀ ρ', Q ρ' → W b ρ' k) : W (gSeq a b) ρ k := by
  obtain ⟨ρ', e, q⟩ := h
  exact W.step e (h2 ρ' q)
theorem W.rt1 (h : X ρ = .ok d) (h2 : k.rt d) : W (gRet X) ρ k := by unfold W gRet; rw [h]; exact h2
theorem W.rtS (h : X ρ = .ok d) (h2 : k.rt d) : W (gSeq (gRet X) b) ρ k := W.seq (W.rt1 h h2)
theorem W.nx (h : k.nx ρ) : W gNx ρ k := by unfold W; exact h
theorem W.nxS (h : W b ρ k) : W (gSeq gNx b) ρ k := W.seq (W.nx h)
theorem W.assoc {b' : List D → R Fl} (h : W (gSeq a (gSeq b b')) ρ k) : W (gSeq (gSeq a b) b') ρ k := by
  unfold W gSeq at *
  cases e : a ρ with
  | ok fl =>
    rw [e] at h
    cases fl with
    | nx ρ' => exact h
    | rt d => exact h
    | bk d => exact h
    | ct d => exact h
  | exc x => rw [e] at h; exact h
  | bad => rw [e] at h; exact h
theorem W.ite {p : Prop} [Decidable p] (h : c ρ = .ok (decide p)) (h1 : p → W A ρ k) (h2 : ¬ p → W B ρ k) : W (gIte c A B) ρ k := by
  unfold W at *
  unfold gIte
  rw [h]
  by_cases q : p
  · rw [decide_eq_true q]; exact h1 q
  · rw [decide_eq_false q]; exact h2 q
theorem gIteS_eq {p : Bool} (h : c ρ = .ok p) : gSeq (gIte c A B) b ρ = if p = true then gSeq A b ρ else gSeq B b ρ := by
  unfold gSeq gIte
  rw [h]
  cases p <;> rfl
theorem W.iteS {p : Prop} [Decidable p] (h : c ρ = .ok (decide p)) (h1 : p → W (gSeq A b) ρ k) (h2 : ¬ p → W (gSeq B b) ρ k) : W (gSeq (gIte c A B) b) ρ k := by
  unfold W at *
  rw [gIteS_eq h]
  by_cases q : p
  · rw [decide_eq_true q, if_pos rfl]; exact h1 q
  · rw [decide_eq_false q, if_neg Bool.false_ne_true]; exact h2 q
theorem W.iteT (h : c ρ = .ok true) (h1 : W A ρ k) : W (gIte c A B) ρ k := by unfold W at *; unfold gIte; rw [h]; exact h1
theorem W.iteF (h : c ρ = .ok false) (h1 : W B ρ k) : W (gIte c A B) ρ k := by unfold W at *; unfold gIte; rw [h]; exact h1
theorem W.iteST (h : c ρ = .ok true) (h1 : W (gSeq A b) ρ k) : W (gSeq (gIte c A B) b) ρ k := by unfold W at *; rw [gIteS_eq h, if_pos rfl]; exact h1
theorem W.iteSF (h : c ρ = .ok false) (h1 : W (gSeq B b) ρ k) : W (gSeq (gIte c A B) b) ρ k := by unfold W at *; rw [gIteS_eq h, if_neg Bool.false_ne_true]; exact h1
theorem W.bkS (h : k.bk ρ) : W (gSeq (fun ρ => .ok (.bk ρ)) b) ρ k := by unfold W; exact h
theorem W.ctS (h : k.ct ρ) : W (gSeq (fun ρ => .ok (.ct ρ)) b) ρ k := by unfold W; exact h
theorem W.bk1 (h : k.bk ρ) : W (fun ρ => .ok (.bk ρ)) ρ k := by unfold W; exact h
theorem W.ct1 (h : k.ct ρ) : W (fun ρ => .ok (.ct ρ)) ρ k := by unfold W; exact h
/-! loops -/
theorem forL_w {step : D → List D → R Fl} : ∀ {ds : List D} {i : Nat} (I : Nat → List D → Prop), (∀ (j : Nat) (d : D), ds[j]? = some d → ∀ ρ, I (i + j) ρ → W (step d) ρ (kL k (I (i + j + 1)))) → (∀ ρ, I (i + ds.length) ρ → k.nx ρ) → ∀ ρ, I i ρ → W (forL step ds) ρ k
  | [], _, I, _, h2, ρ, h => by unfold W; exact h2 ρ h
  | d :: ds, i, I, hs, h2, ρ, h => by
    have h1 := hs 0 d rfl ρ h
    have ih := forL_w (step := step) (ds := ds) (i := i + 1) I (fun j d hd ρ hp => by
      have e : i + 1 + j = i + (j + 1) := by omega
      rw [e] at hp ⊢
      exact hs (j + 1) d hd ρ hp) (fun ρ hp => h2 ρ (by
      have e : i + (d :: ds).length = i + 1 + ds.length := by rw [List.length_cons]; omega
      rw [e]
      exact hp))
    unfold W at h1
    unfold W
    show match (step d ρ >>= fun
      | .nx ρ' => forL step ds ρ'
      | .ct ρ' => forL step ds ρ'
      | .bk ρ' => .ok (.nx ρ')
      | .rt d => .ok (.rt d) : R Fl) with
      | .ok (.nx ρ') => k.nx ρ'
      | .ok (.rt d) => k.rt d
      | .ok (.bk ρ') => k.bk ρ'
      | .ok (.ct ρ') => k.ct ρ'
      | .exc x => k.ex x
      | .bad => False
    cases e : step d ρ with
    | ok fl =>
      rw [e] at h1
      cases fl with
      | nx ρ' => have q := ih ρ' h1; unfold W at q; exact q
      | rt d => exact h1
      | bk d => exact h1
      | ct ρ' => have q := ih ρ' h1; unfold W at q; exact q
    | exc x => rw [e] at h1; exact h1
    | bad => rw [e] at h1; exact h1
theorem W.for1 {ds : List D} (I : Nat → List D → Prop) (hs : src ρ = .ok ds) (h0 : I 0 ρ)
    (h : ∀ (i : Nat) (d : D), ds[i]? = some d → ∀ ρ, I i ρ → ∃ ρ1, gt d ρ = some ρ1 ∧ W body ρ1 (kL k (I (i + 1)))) (h2 : ∀ ρ, I ds.length ρ → k.nx ρ) : W (gFor src gt body) ρ k := by
  have := forL_w (k := k) (step := fun d ρ => oR (gt d ρ) >>= body) (ds := ds) (i := 0) I (fun j d hd ρ hp => by
    rw [Nat.zero_add] at hp ⊢
    obtain ⟨ρ1, e, w⟩ := h j d hd ρ hp
    unfold W
    show match (oR (gt d ρ) >>= body) with
      | .ok (.nx ρ') => _
      | .ok (.rt d) => _
      | .ok (.bk ρ') => _
      | .ok (.ct ρ') => _
      | .exc x => _
      | .bad => False
    rw [e]
    unfold W at w
    exact w) (by rw [Nat.zero_add]; exact h2) ρ h0
  unfold W at this
  unfold W gFor
  rw [hs]
  exact this
theorem W.for {ds : List D} (I : Nat → List D → Prop) (hs : src ρ = .ok ds) (h0 : I 0 ρ)
    (h : ∀ (i : Nat) (d : D), ds[i]? = some d → ∀ ρ, I i ρ → ∃ ρ1, gt d ρ = some ρ1 ∧ W body ρ1 (kL ⟨fun ρ' => W b ρ' k, k.rt, k.bk, k.ct, k.ex⟩ (I (i + 1)))) (h2 : ∀ ρ, I ds.length ρ → W b ρ k) : W (gSeq (gFor src gt body) b) ρ k :=
  W.seq (W.for1 I hs h0 h h2)
/-- over what a list of any kind stands for -/
theorem W.forM {α : Type} {ed : α → D} {xs : List α} (I : Nat → List D → Prop) (hs : src ρ = .ok (xs.map ed)) (h0 : I 0 ρ)
    (h : ∀ (i : Nat) (x : α), xs[i]? = some x → ∀ ρ, I i ρ → ∃ ρ1, gt (ed x) ρ = some ρ1 ∧ W body ρ1 (kL ⟨fun ρ' => W b ρ' k, k.rt, k.bk, k.ct, k.ex⟩ (I (i + 1)))) (h2 : ∀ ρ, I xs.length ρ → W b ρ k) : W (gSeq (gFor src gt body) b) ρ k :=
  W.for I hs h0 (fun i d hd ρ hp => by
    rw [List.getElem?_map] at hd
    cases q : xs[i]? with
    | none => rw [q] at hd; cases hd
    | some x => rw [q] at hd; cases hd; exact h i x q ρ hp) (by rw [List.length_map]; exact h2)
theorem W.forM1 {α : Type} {ed : α → D} {xs : List α} (I : Nat → List D → Prop) (hs : src ρ = .ok (xs.map ed)) (h0 : I 0 ρ)
    (h : ∀ (i : Nat) (x : α), xs[i]? = some x → ∀ ρ, I i ρ → ∃ ρ1, gt (ed x) ρ = some ρ1 ∧ W body ρ1 (kL k (I (i + 1)))) (h2 : ∀ ρ, I xs.length ρ → k.nx ρ) : W (gFor src gt body) ρ k :=
  W.for1 I hs h0 (fun i d hd ρ hp => by
    rw [List.getElem?_map] at hd
    cases q : xs[i]? with
    | none => rw [q] at hd; cases hd
    | some x => rw [q] at hd; cases hd; exact h i x q ρ hp) (by rw [List.length_map]; exact h2)
theorem W.forR {lo cc : Int} {n : Nat} (I : Nat → List D → Prop) (hs : src ρ = .ok (DL.intsFrom lo cc n)) (h0 : I 0 ρ)
    (h : ∀ (i : Nat), i < n → ∀ ρ, I i ρ → ∃ ρ1, gt (.int (lo + i * cc)) ρ = some ρ1 ∧ W body ρ1 (kL ⟨fun ρ' => W b ρ' k, k.rt, k.bk, k.ct, k.ex⟩ (I (i + 1)))) (h2 : ∀ ρ, I n ρ → W b ρ k) : W (gSeq (gFor src gt body) b) ρ k :=
  W.for I hs h0 (fun i d hd ρ hp => by
    obtain ⟨e, hi⟩ := intsFrom_at hd
    subst e
    exact h i hi ρ hp) (by rw [intsFrom_len]; exact h2)
theorem W.forR1 {lo cc : Int} {n : Nat} (I : Nat → List D → Prop) (hs : src ρ = .ok (DL.intsFrom lo cc n)) (h0 : I 0 ρ)
    (h : ∀ (i : Nat), i < n → ∀ ρ, I i ρ → ∃ ρ1, gt (.int (lo + i * cc)) ρ = some ρ1 ∧ W body ρ1 (kL k (I (i + 1)))) (h2 : ∀ ρ, I n ρ → k.nx ρ) : W (gFor src gt body) ρ k :=
  W.for1 I hs h0 (fun i d hd ρ hp => by
    obtain ⟨e, hi⟩ := intsFrom_at hd
    subst e
    exact h i hi ρ hp) (by rw [intsFrom_len]; exact h2)
theorem whL_w (I : List D → Prop) (μ : List D → Nat) (h : ∀ ρ, I ρ → (c ρ = .ok false ∧ k.nx ρ) ∨ (c ρ = .ok true ∧ W body ρ (kL k fun ρ' => I ρ' ∧ μ ρ' < μ ρ))) :
    ∀ (n : Nat) (ρ : List D), I ρ → μ ρ < n → W (whL c body n) ρ k
  | 0, _, _, hn => absurd hn (Nat.not_lt_zero _)
  | n + 1, ρ, hI, hn => by
    unfold W
    show match (c ρ >>= fun k => if k = true then body ρ >>= fun
      | .nx ρ' => whL c body n ρ'
      | .ct ρ' => whL c body n ρ'
      | .bk ρ' => .ok (.nx ρ')
      | .rt d => .ok (.rt d)
    else .ok (.nx ρ) : R Fl) with
      | .ok (.nx ρ') => k.nx ρ'
      | .ok (.rt d) => k.rt d
      | .ok (.bk ρ') => k.bk ρ'
      | .ok (.ct ρ') => k.ct ρ'
      | .exc x => k.ex x
      | .bad => False
    rcases h ρ hI with ⟨e, q⟩ | ⟨e, w⟩
    · rw [e]; exact q
    · rw [e]
      unfold W at w
      show match (body ρ >>= fun
        | .nx ρ' => whL c body n ρ'
        | .ct ρ' => whL c body n ρ'
        | .bk ρ' => .ok (.nx ρ')
        | .rt d => .ok (.rt d) : R Fl) with
        | .ok (.nx ρ') => k.nx ρ'
        | .ok (.rt d) => k.rt d
        | .ok (.bk ρ') => k.bk ρ'
        | .ok (.ct ρ') => k.ct ρ'
        | .exc x => k.ex x
        | .bad => False
      cases eb : body ρ with
      | ok fl =>
        rw [eb] at w
        cases fl with
        | nx ρ' => have q := whL_w I μ h n ρ' w.1 (by have := w.2; omega); unfold W at q; exact q
        | rt d => exact w
        | bk d => exact w
        | ct ρ' => have q := whL_w I μ h n ρ' w.1 (by have := w.2; omega); unfold W at q; exact q
      | exc x => rw [eb] at w; exact w
      | bad => rw [eb] at w; exact w
theorem W.wh {fuel : List D → Nat} (I : List D → Prop) (μ : List D → Nat) (h0 : I ρ) (hf : μ ρ < fuel ρ)
    (h : ∀ ρ, I ρ → (c ρ = .ok false ∧ W b ρ k) ∨ (c ρ = .ok true ∧ W body ρ (kL ⟨fun ρ' => W b ρ' k, k.rt, k.bk, k.ct, k.ex⟩ fun ρ' => I ρ' ∧ μ ρ' < μ ρ))) : W (gSeq (gWhile fuel c body) b) ρ k :=
  W.seq (by
    have q := whL_w (k := ⟨fun ρ' => W b ρ' k, k.rt, k.bk, k.ct, k.ex⟩) I μ h _ ρ h0 hf
    unfold W at q
    unfold W gWhile
    exact q)
/-- a def's run -/
theorem W.fnX {P : D → Prop} {Xx : Ex → Prop} (h : W g' ρ (kF P Xx)) : RP (g' ρ >>= finF) P Xx := by
  unfold W at h
  cases e : g' ρ with
  | ok fl =>
    rw [e] at h
    cases fl with
    | nx ρ' => exact h
    | rt d => exact h
    | bk d => exact h.elim
    | ct d => exact h.elim
  | exc x => rw [e] at h; exact h
  | bad => rw [e] at h; exact h
theorem W.fn {P : D → Prop} (h : W a ρ (kO P)) : Ok (a ρ >>= finF) P := W.fnX h
end
section
variable {ρ : List D} {src : List D → R (List D)} {gt : D → List D → Option (List D)} {ge : List D → R D} {tt : List D → R Bool}
/-! comprehensions -/
theorem gLc_map {α : Type} {ed : α → D} {h : α → D} {xs : List α} (hs : src ρ = .ok (xs.map ed)) (hx : ∀ x ∈ xs, ∃ ρ', gt (ed x) ρ = some ρ' ∧ ge ρ' = .ok (h x)) : gLc src gt gtt ge ρ = .ok (.lst (xs.map h)) := by
  unfold gLc
  rw [hs]
  show (mapL _ _ >>= fun ys => R.ok (D.lst ys)) = _
  rw [mapL_map (h := h) (fun x hm => by
    obtain ⟨ρ', h1, h2⟩ := hx x hm
    rw [h1]
    show noX (ge ρ' >>= fun y => R.ok (some y)) = _
    rw [h2]
    rfl)]
  rfl
theorem gLc_rng {lo c : Int} {n : Nat} {h : Nat → D} (hs : src ρ = .ok (DL.intsFrom lo c n)) (hx : ∀ i, i < n → ∃ ρ', gt (.int (lo + i * c)) ρ = some ρ' ∧ ge ρ' = .ok (h i)) : gLc src gt gtt ge ρ = .ok (.lst ((List.range n).map h)) :=
  gLc_map (ed := fun (i : Nat) => D.int (lo + i * c)) hs fun i hi => hx i (List.mem_range.mp hi)
theorem filt_map {α : Type} {h : α → D} {p : α → Bool} : ∀ (xs : List α), (xs.filterMap fun x => if p x = true then some (h x) else none) = (xs.filter p).map h
  | [] => rfl
  | x :: xs => by
    rw [List.filterMap_cons, List.filter_cons]
    cases p x with
    | true => rw [if_pos rfl, if_pos rfl, List.map_cons, ← filt_map xs]
    | false => rw [if_neg Bool.false_ne_true, if_neg Bool.false_ne_true, ← filt_map xs]
theorem gLc_filt {α : Type} {ed : α → D} {h : α → D} {p : α → Bool} {xs : List α} (hs : src ρ = .ok (xs.map ed)) (hx : ∀ x ∈ xs, ∃ ρ', gt (ed x) ρ = some ρ' ∧ tt ρ' = .ok (p x) ∧ (p x = true → ge ρ' = .ok (h x))) : gLc src gt tt ge ρ = .ok (.lst ((xs.filter p).map h)) := by
  unfold gLc
  rw [hs]
  show (mapL _ _ >>= fun ys => R.ok (D.lst ys)) = _
  rw [mapL_filter (h := fun x => if p x = true then some (h x) else none) (fun x hm => by
    obtain ⟨ρ', h1, h2, h3⟩ := hx x hm
    rw [h1]
    show noX (tt ρ' >>= fun b => if b = true then ge ρ' >>= fun y => R.ok (some y) else R.ok none) = _
    rw [h2]
    cases q : p x with
    | true =>
      show noX (ge ρ' >>= fun y => R.ok (some y)) = _
      rw [h3 q]
      rfl
    | false => rfl)]
  show R.ok (D.lst (xs.filterMap _)) = _
  rw [filt_map]
theorem gAll1 {f : List D → R D} {g : List D → R D} {ρ : List D} {d : D} (h : g ρ = .ok d) : gAll f (gsC g gsN) ρ = f [d] := by
  show ((g ρ >>= fun d => gsN ρ >>= fun ds => R.ok (d :: ds)) >>= f) = _
  rw [h]
  rfl
theorem gAll2 {f : List D → R D} {g g' : List D → R D} {ρ : List D} {a b : D} (h : g ρ = .ok a) (h' : g' ρ = .ok b) : gAll f (gsC g (gsC g' gsN)) ρ = f [a, b] := by
  show ((g ρ >>= fun d => (g' ρ >>= fun d => gsN ρ >>= fun ds => R.ok (d :: ds)) >>= fun ds => R.ok (d :: ds)) >>= f) = _
  rw [h, h']
  rfl
theorem gApp_s {i : Nat} {g : List D → R D} {ρ ds : List D} {d : D} (h1 : ρ.getD i .non = .lst ds) (h2 : g ρ = .ok d) (h3 : ds.length < sizeLine) : gApp i g ρ = .ok (.nx (ρ.set i (.lst (ds ++ [d])))) := by
  unfold gApp
  rw [h1]
  show (g ρ >>= _) = _
  rw [h2]
  exact if_pos h3
theorem gApp_rng {i n : Nat} {rr : Nat → D} {g : List D → R D} {ρ : List D} (h1 : ρ.getD i .non = .lst ((List.range n).map rr)) (h2 : g ρ = .ok (rr n)) (h3 : n ≤ 1000000) : gApp i g ρ = .ok (.nx (ρ.set i (.lst ((List.range (n + 1)).map rr)))) := by
  have hsz : sizeLine = 16777216 := sizeLine_eq
  rw [gApp_s h1 h2 (by rw [List.length_map, List.length_range]; omega), List.range_succ, List.map_append]
  rfl
theorem gApp_take {α : Type} {i n : Nat} {xs : List α} {x : α} {rr : α → D} {g : List D → R D} {ρ : List D} (hx : xs[n]? = some x) (h1 : ρ.getD i .non = .lst ((xs.take n).map rr)) (h2 : g ρ = .ok (rr x)) (h3 : xs.length ≤ 1000000) : gApp i g ρ = .ok (.nx (ρ.set i (.lst ((xs.take (n + 1)).map rr)))) := by
  have hsz : sizeLine = 16777216 := sizeLine_eq
  have hn := (List.getElem?_eq_some_iff.mp hx).1
  rw [gApp_s h1 h2 (by rw [List.length_map, List.length_take]; omega), List.take_add_one, hx, List.map_append]
  rfl
theorem zip2_map {α : Type} (a b : α → D) : ∀ xs : List α, zip2D (xs.map a) (xs.map b) = xs.map fun x => .tup [a x, b x]
  | [] => rfl
  | x :: xs => by
    have := zip2_map a b xs
    unfold zip2D at *
    rw [List.map_cons, List.map_cons, List.zip_cons_cons, List.map_cons, this, List.map_cons]
theorem gZip_map {α : Type} {ga gb : List D → R D} {ρ : List D} {d1 d2 : D} {a b : α → D} {xs : List α} (h1 : ga ρ = .ok d1) (h2 : gb ρ = .ok d2) (s1 : dSqs d1 = .ok (xs.map a)) (s2 : dSqs d2 = .ok (xs.map b)) (hl : xs.length ≤ 1000000) :
    gZip ga gb ρ = .ok (xs.map fun x => .tup [a x, b x]) := by
  have hsz : sizeLine = 16777216 := sizeLine_eq
  unfold gZip
  rw [h1, bind_ok, h2, bind_ok, s1, bind_ok, s2, bind_ok, if_pos (by rw [List.length_map]; omega), zip2_map]
theorem atI_rng {g : Nat → D} {n i : Nat} (h : i < n) : atI ((List.range n).map g) (i : Int) = some (g i) := by
  rw [atI_map, atI_in (by omega) (by rw [List.length_range]; omega)]
  show some _ = _
  congr 2
  simp
theorem gLc_filtM {α : Type} {ed : α → D} {h : α → D} {p : α → Bool} {xs : List α} (hs : src ρ = .ok (xs.map ed)) (hx : ∀ x ∈ xs, ∃ ρ', gt (ed x) ρ = some ρ' ∧ tt ρ' = .ok (p x) ∧ (p x = true → ge ρ' = .ok (h x))) : gLc src gt tt ge ρ = .ok (.lst ((xs.filter p).map h)) := gLc_filt hs hx
theorem ixT_get {ds : List D} {i : Nat} {d : D} (h : ds[i]? = some d) : dIx (.tup ds) (.int (i : Int)) = .ok d := by
  have hl := (List.getElem?_eq_some_iff.mp h).1
  show oR (atI ds i) = _
  rw [atI_in (by omega) (by omega)]
  rw [List.getElem?_eq_getElem hl] at h
  cases h
  rfl
theorem ixL_get {ds : List D} {i : Nat} {d : D} (h : ds[i]? = some d) : dIx (.lst ds) (.int (i : Int)) = .ok d := ixT_get h
theorem dAdd_tup {xs ys : List D} (h : xs.length + ys.length ≤ 1000000) : dAdd (.tup xs) (.tup ys) = .ok (.tup (xs ++ ys)) := if_pos (by rw [sizeLine_eq]; omega)
theorem dAdd_lst {xs ys : List D} (h1 : xs.all nlB = true) (h2 : ys.all nlB = true) (h : xs.length + ys.length ≤ 1000000) : dAdd (.lst xs) (.lst ys) = .ok (.lst (xs ++ ys)) := if_pos ⟨h1, h2, by rw [sizeLine_eq]; omega⟩
end
end DL
namespace LW
open PySem L2 DL
/-! what a head is -/
theorem gOr_dec {a b : List D → R Bool} {ρ : List D} {p q : Prop} [Decidable p] [Decidable q] (h1 : a ρ = .ok (decide p)) (h2 : b ρ = .ok (decide q)) : gOr a b ρ = .ok (decide (p ∨ q)) := by
  unfold gOr
  rw [h1, bind_ok, h2]
  by_cases x : p <;> by_cases y : q <;> simp [x, y]
theorem gOr_dec2 {a b : List D → R Bool} {ρ : List D} {p q : Prop} [Decidable p] [Decidable q] (h1 : a ρ = .ok (decide p)) (h2 : ¬ p → b ρ = .ok (decide q)) : gOr a b ρ = .ok (decide (p ∨ q)) := by
  unfold gOr
  rw [h1, bind_ok]
  by_cases x : p
  · simp [x]
  · rw [h2 x]
    by_cases y : q <;> simp [x, y]
theorem gAnd_dec {a b : List D → R Bool} {ρ : List D} {p q : Prop} [Decidable p] [Decidable q] (h1 : a ρ = .ok (decide p)) (h2 : b ρ = .ok (decide q)) : gAnd a b ρ = .ok (decide (p ∧ q)) := by
  unfold gAnd
  rw [h1, bind_ok, h2]
  by_cases x : p <;> by_cases y : q <;> simp [x, y]
theorem gNot_dec {a : List D → R Bool} {ρ : List D} {p : Prop} [Decidable p] (h1 : a ρ = .ok (decide p)) : gNot a ρ = .ok (decide (¬ p)) := by
  unfold gNot
  rw [h1, bind_ok, decide_not]
theorem gB_bl {a : List D → R D} {ρ : List D} {b : Bool} (h : a ρ = .ok (.bl b)) : gB a ρ = .ok b := by
  unfold gB
  rw [h]
  rfl
theorem toBl_dec {a : List D → R Bool} {ρ : List D} {p : Prop} [Decidable p] (h1 : a ρ = .ok (decide p)) : toBl a ρ = .ok (.bl (decide p)) := by
  unfold toBl
  rw [h1]
  rfl
/-! small words -/
def dN (n : Nat) : D := .int n
theorem set_of {i : Nat} {g : List D → R D} {ρ : List D} {d : D} (h : g ρ = .ok d) : gSet i g ρ = .ok (.nx (ρ.set i d)) := by
  unfold gSet
  rw [h]
  rfl
theorem gOr_F {a b : List D → R Bool} {ρ : List D} {r : Bool} (h1 : a ρ = .ok false) (h2 : b ρ = .ok r) : gOr a b ρ = .ok r := by
  unfold gOr
  rw [h1]
  exact h2
theorem gAnd_T {a b : List D → R Bool} {ρ : List D} {r : Bool} (h1 : a ρ = .ok true) (h2 : b ρ = .ok r) : gAnd a b ρ = .ok r := by
  unfold gAnd
  rw [h1]
  exact h2
theorem gAnd_F {a b : List D → R Bool} {ρ : List D} (h1 : a ρ = .ok false) : gAnd a b ρ = .ok false := by
  unfold gAnd
  rw [h1]
  rfl
theorem run_of {g : List D → R Fl} {ρ : List D} {d : D} (h : W g ρ (kO fun x => x = d)) : (g ρ >>= finF) = .ok d := Ok.eq (W.fn h)
theorem W.raise {C : Addr} {ρ : List D} {k : Kt} (h : k.ex ⟨C, []⟩) : W (gRaise C) ρ k := by
  unfold W gRaise
  exact h
theorem rp_exc {r : R D} {x : Ex} (h : RP r (fun _ => False) fun y => y = x) : r = .exc x := by
  cases r with
  | ok d => exact (show False from h).elim
  | exc y => exact congrArg R.exc (show y = x from h)
  | bad => exact (show False from h).elim
theorem gAll1 {f : List D → R D} {g : List D → R D} {ρ : List D} {d : D} (h : g ρ = .ok d) : gAll f (gsC g gsN) ρ = f [d] := by
  show (gsC g gsN ρ >>= f) = _
  show ((g ρ >>= fun d => gsN ρ >>= fun ds => R.ok (d :: ds)) >>= f) = _
  rw [h]
  rfl
theorem gApp_s {i : Nat} {g : List D → R D} {ρ ds : List D} {d : D} (h1 : ρ.getD i .non = .lst ds) (h2 : g ρ = .ok d) (h3 : ds.length < sizeLine) : gApp i g ρ = .ok (.nx (ρ.set i (.lst (ds ++ [d])))) := by
  unfold gApp
  rw [h1]
  show (g ρ >>= _) = _
  rw [h2]
  exact if_pos h3
theorem all_dN (xs : List Nat) : (xs.map dN).all nlB = true := by
  rw [List.all_eq_true]
  intro d hd
  obtain ⟨x, _, rfl⟩ := List.mem_map.mp hd
  rfl
/-! texts as lists of code points -/
def cS (l : List Nat) : Str := ⟨l.toArray⟩
def tS (l : List Nat) : D := .str (cS l)
theorem cS_len (l : List Nat) : (cS l).length = l.length := rfl
theorem cS_toList (l : List Nat) : (cS l).cps.toList = l := rfl
theorem tAdd {a b : List Nat} (h : a.length + b.length ≤ 16777216) : dAdd (tS a) (tS b) = .ok (tS (a ++ b)) := by
  have e : cS a ++ cS b = cS (a ++ b) := SX.S_cat a b
  show (if (cS a).length + (cS b).length ≤ sizeLine then R.ok (D.str (cS a ++ cS b)) else R.bad) = _
  rw [if_pos (by rw [cS_len, cS_len, sizeLine_eq]; exact h), e]
  rfl
theorem tIx {a : List Nat} {i : Nat} (h : i < a.length) (hl : a.length ≤ 16777216) : dIx (tS a) (.int i) = .ok (tS [a.getD i 0]) := by
  show (if (cS a).length ≤ sizeLine then oR ((atI (cS a).cps.toList i).map fun c => D.str ⟨#[c]⟩) else R.bad) = _
  rw [if_pos (by rw [cS_len, sizeLine_eq]; exact hl), cS_toList]
  have e : atI a (i : Int) = some (a.getD i 0) := by
    rw [atI_in (by omega) (by omega), List.getD_eq_getElem?_getD, List.getElem?_eq_getElem h]
    rfl
  rw [e]
  rfl
theorem tLen {a : List Nat} (hl : a.length ≤ 16777216) : dLen [tS a] = .ok (.int a.length) := by
  show (if (cS a).length ≤ sizeLine then R.ok (D.int (cS a).length) else R.bad) = _
  rw [if_pos (by rw [cS_len, sizeLine_eq]; exact hl)]
  rfl
theorem tIter {a : List Nat} (hl : a.length ≤ 16777216) : dIter (tS a) = .ok (a.map fun c => tS [c]) := by
  show (if (cS a).cps.size ≤ sizeLine then R.ok ((cS a).cps.toList.map fun c => D.str ⟨#[c]⟩) else R.bad) = _
  rw [if_pos (by show a.length ≤ _; rw [sizeLine_eq]; exact hl)]
  rfl
theorem tSl {a : List Nat} (hl : a.length ≤ 16777216) (nl : Bool) (lo hi : Option Int) : dSl nl (tS a) lo hi = .ok (tS (cutD a lo hi)) := by
  show (if (cS a).length ≤ sizeLine then R.ok (D.str (cutS (cS a) lo hi)) else R.bad) = _
  rw [if_pos (by rw [cS_len, sizeLine_eq]; exact hl)]
  rfl
theorem tIn (c : Nat) (a : List Nat) : dInS false (tS [c]) (tS a) = .ok (.bl (decide (c ∈ a))) := by
  show R.ok (D.bl (decide (c ∈ a) ^^ false)) = _
  rw [Bool.xor_false]
theorem tLower {a : List Nat} (h : ∀ c ∈ a, c < 128) (hl : a.length ≤ 5592405) : dT0 5592405 Txt.lower (tS a) = .ok (tS (a.map PyProof.Rows.lo1)) := by
  refine (if_pos hl).trans ?_
  exact congrArg (fun x => R.ok (D.str x)) (SX.lower_S (List.all_eq_true.mpr fun c hc => decide_eq_true (h c hc)))
theorem tUpper {a : List Nat} (h : ∀ c ∈ a, c < 128) (hl : a.length ≤ 5592405) : dT0 5592405 Txt.upper (tS a) = .ok (tS (a.map PyProof.Rows.up1)) := by
  refine (if_pos hl).trans ?_
  exact congrArg (fun x => R.ok (D.str x)) (SX.upper_S (List.all_eq_true.mpr fun c hc => decide_eq_true (h c hc)))
def low (a : List Nat) : Prop := ∀ c ∈ a, c < 128
theorem low_str {a : List Nat} (h : low a) : PyData.strOk (cS a) = true := by
  show a.toArray.all (· < 0x110000) = true
  rw [List.all_toArray]
  exact List.all_eq_true.mpr fun c hc => decide_eq_true (by have := h c hc; omega)
theorem ok_tS {a : List Nat} (h : low a) : OkD 64 (tS a) := .str (low_str h)
theorem cS_beq (a b : List Nat) : (cS a == cS b) = decide (a = b) := SX.S_beq_eq
theorem eqOk_tS {a : List Nat} (h : low a) : eqOk (tS a) = true := by
  have q := low_str h
  show (true && (PyData.canLay0 (.str (cS a)) && decide (PyData.depth (.str (cS a)) ≤ 64))) = true
  have e : PyData.canLay0 (.str (cS a)) = PyData.strOk (cS a) := rfl
  rw [e, q]
  rfl
theorem tEq {a b : List Nat} (ha : low a) (hb : low b) : dEq (tS a) (tS b) = .ok (.bl (decide (a = b))) := by
  show (if (eqOk (tS a) && eqOk (tS b)) = true then R.ok (D.bl (PyData.eqv (.str (cS a)) (.str (cS b)))) else R.bad) = _
  rw [eqOk_tS ha, eqOk_tS hb]
  show R.ok (D.bl (cS a == cS b)) = _
  rw [cS_beq]
theorem tNe {a b : List Nat} (ha : low a) (hb : low b) : dNe (tS a) (tS b) = .ok (.bl (!decide (a = b))) := by
  show (if (eqOk (tS a) && eqOk (tS b)) = true then R.ok (D.bl (!PyData.eqv (.str (cS a)) (.str (cS b)))) else R.bad) = _
  rw [eqOk_tS ha, eqOk_tS hb]
  show R.ok (D.bl (!(cS a == cS b))) = _
  rw [cS_beq]
theorem low_app {a b : List Nat} (ha : low a) (hb : low b) : low (a ++ b) := fun c hc => (List.mem_append.mp hc).elim (ha c) (hb c)
theorem low_take {a : List Nat} (n : Nat) (h : low a) : low (a.take n) := fun c hc => h c (List.mem_of_mem_take hc)
theorem low_drop {a : List Nat} (n : Nat) (h : low a) : low (a.drop n) := fun c hc => h c (List.mem_of_mem_drop hc)
/-! joined texts -/
theorem joinL_len (a : List Nat) {k : Nat} : ∀ {ws : List (List Nat)}, (∀ w ∈ ws, w.length ≤ k) → (TL.joinL a ws).length ≤ ws.length * (k + a.length)
  | [], _ => Nat.zero_le _
  | [w], h => by
    have := h w List.mem_cons_self
    show w.length ≤ 1 * (k + a.length)
    omega
  | w :: x :: r, h => by
    have h1 := h w List.mem_cons_self
    have h2 := joinL_len a (ws := x :: r) fun y hy => h y (List.mem_cons_of_mem _ hy)
    show (w ++ (a ++ TL.joinL a (x :: r))).length ≤ _
    rw [List.length_append, List.length_append, List.length_cons (a := w), Nat.add_mul]
    omega
theorem joinL_mem (a : List Nat) : ∀ {ws : List (List Nat)} {c : Nat}, c ∈ TL.joinL a ws → c ∈ a ∨ ∃ w ∈ ws, c ∈ w
  | [], _, h => nomatch h
  | [w], c, h => .inr ⟨w, List.mem_cons_self, h⟩
  | w :: x :: r, c, h => by
    have h : c ∈ w ++ (a ++ TL.joinL a (x :: r)) := h
    rcases List.mem_append.mp h with h | h
    · exact .inr ⟨w, List.mem_cons_self, h⟩
    · rcases List.mem_append.mp h with h | h
      · exact .inl h
      · rcases joinL_mem a h with h | ⟨y, h1, h2⟩
        · exact .inl h
        · exact .inr ⟨y, List.mem_cons_of_mem _ h1, h2⟩
theorem tJoin {a : List Nat} {ws : List (List Nat)} {k n : Nat} (h : ∀ w ∈ ws, w.length ≤ k) (hn : ws.length ≤ n) (hb : n * k + n * a.length ≤ 16777216) : dJoin (tS a) (.lst (ws.map tS)) = .ok (tS (TL.joinL a ws)) := by
  have e : ws.map tS = (ws.map cS).map D.str := by rw [List.map_map]; rfl
  have sm : ∀ (l : List Nat) (k : Nat), (∀ x ∈ l, x ≤ k) → l.sum ≤ l.length * k := by
    intro l k
    induction l with
    | nil => intro _; exact Nat.zero_le _
    | cons x l ih =>
      intro h
      have := ih fun y hy => h y (List.mem_cons_of_mem _ hy)
      have := h x List.mem_cons_self
      rw [List.sum_cons, List.length_cons, Nat.add_mul, Nat.one_mul]
      omega
  have s1 := sm ((ws.map cS).map fun y : Str => y.length) k fun x hx => by
    obtain ⟨y, hy, rfl⟩ := List.mem_map.mp hx
    obtain ⟨w, hw, rfl⟩ := List.mem_map.mp hy
    exact h w hw
  rw [List.length_map, List.length_map] at s1
  rw [e]
  show (match tsD ((ws.map cS).map D.str) with
    | some ys => if (ys.map fun y : Str => y.length).sum + ys.length * (cS a).length ≤ 16777216 then R.ok (D.str (Txt.join (cS a) ys)) else .bad
    | none => .bad) = _
  rw [tsD_map]
  show (if ((ws.map cS).map fun y : Str => y.length).sum + (ws.map cS).length * (cS a).length ≤ 16777216 then R.ok (D.str (Txt.join (cS a) (ws.map cS))) else R.bad) = _
  have n1 : ws.length * k ≤ n * k := Nat.mul_le_mul_right _ hn
  have n2 : ws.length * a.length ≤ n * a.length := Nat.mul_le_mul_right _ hn
  rw [if_pos (by rw [List.length_map, cS_len]; omega), show Txt.join (cS a) (ws.map cS) = _ from SX.join_S a ws]
  rfl
theorem gJn_of {z : List Nat} {g : List D → R D} {ρ : List D} {e : D} (h : g ρ = .ok e) : gJn (gc (tS z)) g ρ = dJoin (tS z) e := by
  show (g ρ >>= fun e => dJoin (tS z) e) = _
  rw [h]
  rfl
theorem g2L {f : D → D → R D} {a b : List D → R D} {ρ : List D} {x y : D} (h1 : a ρ = .ok x) (h2 : b ρ = .ok y) : g2 f a b ρ = f x y := by
  show (a ρ >>= fun x => b ρ >>= fun y => f x y) = _
  rw [h1, h2]
  rfl
theorem g1L {f : D → R D} {a : List D → R D} {ρ : List D} {x : D} (h1 : a ρ = .ok x) : g1 f a ρ = f x := by
  show (a ρ >>= f) = _
  rw [h1]
  rfl
theorem gNot_of {a : List D → R Bool} {ρ : List D} {b : Bool} (h : a ρ = .ok b) : gNot a ρ = .ok (!b) := by
  unfold gNot
  rw [h]
  rfl
theorem gs1 {a : List D → R D} {ρ : List D} {x : D} (h1 : a ρ = .ok x) : gsC a gsN ρ = .ok [x] := by
  show (a ρ >>= fun d => gsN ρ >>= fun ds => R.ok (d :: ds)) = _
  rw [h1]
  rfl
theorem gsC_of {a : List D → R D} {b : List D → R (List D)} {ρ : List D} {x : D} {xs : List D} (h1 : a ρ = .ok x) (h2 : b ρ = .ok xs) : gsC a b ρ = .ok (x :: xs) := by
  show (a ρ >>= fun d => b ρ >>= fun ds => R.ok (d :: ds)) = _
  rw [h1, bind_ok, h2]
  rfl
theorem gs3 {a b c : List D → R D} {ρ : List D} {x y z : D} (h1 : a ρ = .ok x) (h2 : b ρ = .ok y) (h3 : c ρ = .ok z) : gsC a (gsC b (gsC c gsN)) ρ = .ok [x, y, z] := gsC_of h1 (gsC_of h2 (gs1 h3))
theorem gs4 {a b c d : List D → R D} {ρ : List D} {x y z u : D} (h1 : a ρ = .ok x) (h2 : b ρ = .ok y) (h3 : c ρ = .ok z) (h4 : d ρ = .ok u) : gsC a (gsC b (gsC c (gsC d gsN))) ρ = .ok [x, y, z, u] := gsC_of h1 (gsC_of h2 (gsC_of h3 (gs1 h4)))
theorem gAll3 {f : List D → R D} {a b c : List D → R D} {ρ : List D} {x y z : D} (h1 : a ρ = .ok x) (h2 : b ρ = .ok y) (h3 : c ρ = .ok z) : gAll f (gsC a (gsC b (gsC c gsN))) ρ = f [x, y, z] := by
  show (gsC a (gsC b (gsC c gsN)) ρ >>= f) = _
  rw [gs3 h1 h2 h3]
  rfl
theorem gNotT {a : List D → R Bool} {ρ : List D} (h : a ρ = .ok true) : gNot a ρ = .ok false := gNot_of h
theorem gNotF {a : List D → R Bool} {ρ : List D} (h : a ρ = .ok false) : gNot a ρ = .ok true := gNot_of h
/-! hex: what a text of code points below 128 says -/
def blk (c : Nat) : Bool := c == 32 || c == 10
/-- a figure's number -/
def fgN (c : Nat) : Option Nat := if 48 ≤ c ∧ c ≤ 57 then some (c - 48) else if 97 ≤ c ∧ c ≤ 102 then some (c - 87) else if 65 ≤ c ∧ c ≤ 70 then some (c - 55) else none
/-- one figure more -/
def hexU (v : Nat) (acc : List Nat) : Option Nat → List Nat × Option Nat
  | none => (acc, some v)
  | some u => (acc ++ [u * 16 + v], none)
/-- sign by sign, the half of a byte in hand -/
def hexP : List Nat → List Nat → Option Nat → Option (List Nat)
  | [], acc, none => some acc
  | [], _, some _ => none
  | c :: cs, acc, h => if blk c = true ∧ h = none then hexP cs acc none else match fgN c with
    | none => none
    | some v => hexP cs (hexU v acc h).1 (hexU v acc h).2
/-- pair by pair -/
def hexD : List Nat → List Nat → Option (List Nat)
  | [], acc => some acc
  | [c], acc => if blk c = true then some acc else none
  | c :: d :: cs, acc => if blk c = true then hexD (d :: cs) acc else match fgN c, fgN d with
    | some u, some v => hexD cs (acc ++ [u * 16 + v])
    | _, _ => none
theorem hexP_blk {c : Nat} {cs acc : List Nat} (h : blk c = true) : hexP (c :: cs) acc none = hexP cs acc none := by
  show (if blk c = true ∧ (none : Option Nat) = none then _ else _) = _
  rw [if_pos ⟨h, rfl⟩]
theorem hexP_one {c : Nat} {cs acc : List Nat} (h : ¬ blk c = true) : hexP (c :: cs) acc none = match fgN c with
    | none => none
    | some v => hexP cs acc (some v) := by
  show (if blk c = true ∧ (none : Option Nat) = none then _ else _) = _
  rw [if_neg fun z => h z.1] <;> cases fgN c <;> rfl
theorem hexP_two {c u : Nat} {cs acc : List Nat} : hexP (c :: cs) acc (some u) = match fgN c with
    | none => none
    | some v => hexP cs (acc ++ [u * 16 + v]) none := by
  show (if blk c = true ∧ some u = none then _ else _) = _
  rw [if_neg fun z => nomatch z.2] <;> cases fgN c <;> rfl
theorem hex_same : ∀ (n : Nat) (l acc : List Nat), l.length ≤ n → hexP l acc none = hexD l acc
  | _, [], acc, _ => rfl
  | n, [c], acc, _ => by
    show _ = if blk c = true then some acc else none
    by_cases h : blk c = true
    · rw [hexP_blk h, if_pos h]
      rfl
    · rw [hexP_one h, if_neg h]
      cases fgN c <;> rfl
  | n + 1, c :: d :: cs, acc, hl => by
    have hl : cs.length + 1 ≤ n := by simpa using hl
    show _ = if blk c = true then hexD (d :: cs) acc else match fgN c, fgN d with
      | some u, some v => hexD cs (acc ++ [u * 16 + v])
      | _, _ => none
    by_cases h : blk c = true
    · rw [hexP_blk h, if_pos h]
      exact hex_same n (d :: cs) acc (by simpa using hl)
    · rw [hexP_one h, if_neg h]
      cases hc : fgN c with
      | none => rfl
      | some u =>
        show hexP (d :: cs) acc (some u) = _
        rw [hexP_two]
        cases hd : fgN d with
        | none => rfl
        | some v => exact hex_same n cs _ (by omega)
theorem hexP_lt : ∀ (l acc : List Nat) (h : Option Nat) {bs : List Nat}, (∀ b ∈ acc, b < 256) → (∀ u, h = some u → u < 16) → hexP l acc h = some bs → ∀ b ∈ bs, b < 256
  | [], acc, none, bs, ha, _, e => by
    cases e
    exact ha
  | [], acc, some u, bs, ha, _, e => nomatch e
  | c :: cs, acc, h, bs, ha, hh, e => by
    have fl : ∀ v, fgN c = some v → v < 16 := fun v q => by
      unfold fgN at q
      split at q
      · cases q; omega
      split at q
      · cases q; omega
      split at q
      · cases q; omega
      · cases q
    have e : (if blk c = true ∧ h = none then hexP cs acc none else match fgN c with
      | none => none
      | some v => hexP cs (hexU v acc h).1 (hexU v acc h).2) = some bs := e
    by_cases q : blk c = true ∧ h = none
    · rw [if_pos q] at e
      exact hexP_lt cs acc none ha (fun _ z => nomatch z) e
    · rw [if_neg q] at e
      cases hc : fgN c with
      | none => rw [hc] at e; cases e
      | some v =>
        rw [hc] at e
        have v16 := fl v hc
        cases h with
        | none => exact hexP_lt cs acc (some v) ha (fun u z => by cases z; exact v16) e
        | some u =>
          have u16 := hh u rfl
          refine hexP_lt cs (acc ++ [u * 16 + v]) none (fun b hb => ?_) (fun _ z => nomatch z) e
          rcases List.mem_append.mp hb with z | z
          · exact ha b z
          · rw [List.mem_singleton.mp z]; omega
theorem figs_eq : Str.ofString "0123456789abcdef" = cS [48, 49, 50, 51, 52, 53, 54, 55, 56, 57, 97, 98, 99, 100, 101, 102] := by decide +kernel
theorem btw_eq : Str.ofString " \n" = cS [32, 10] := by decide +kernel
/-- where a sign stands among the figures -/
def fgI (o : Option Nat) : Int := match o with
  | some v => (v : Int)
  | none => -1
theorem find_lo : ∀ c < 128, Txt.find (Str.ofString "0123456789abcdef") ⟨#[PyProof.Rows.lo1 c]⟩ = fgI (fgN c) := by decide +kernel
theorem lo_blk : ∀ c < 128, decide (PyProof.Rows.lo1 c ∈ [32, 10]) = blk c := by decide +kernel
theorem fgI_neg (o : Option Nat) : (fgI o < 0) = (o = none) := by
  cases o with
  | none => exact propext ⟨fun _ => rfl, fun _ => by decide⟩
  | some v => exact propext ⟨fun h => by have h : (v : Int) < 0 := h; omega, fun h => nomatch h⟩
/-- what unhexed tells -/
theorem unhexed_W (cx : Nat → Addr) {l : List Nat} (hl : l.length ≤ 5000000) (h : low l) {k : Kt} (h1 : ∀ bs, hexP l [] none = some bs → k.rt (.tup (bs.map dN))) (h2 : hexP l [] none = none → k.ex ⟨cx 1, []⟩) : W (g_unhexed cx) [tS l, .non, .non, .non, .non] k := by
  have lw := tLower (a := l) h (by omega)
  have it := tIter (a := l.map PyProof.Rows.lo1) (by rw [List.length_map]; omega)
  rw [List.map_map] at it
  have fq := find_lo
  rw [figs_eq] at fq
  unfold g_unhexed
  rw [btw_eq, figs_eq]
  refine W.step (ρ' := [tS l, .lst [], .non, .non, .non]) (by rfl) ?_
  refine W.step (ρ' := [tS l, .lst [], .non, .non, .non]) (by rfl) ?_
  let hD : Option Nat → D := fun o => match o with
    | none => .non
    | some v => dN v
  have tk : ∀ i, i < l.length → l.drop i = l.getD i 0 :: l.drop (i + 1) := fun i hi => by
    rw [List.drop_eq_getElem_cons hi, List.getD_eq_getElem?_getD, List.getElem?_eq_getElem hi]
    rfl
  refine W.forM (ed := fun c => tS [PyProof.Rows.lo1 c]) (xs := l) (fun i ρ => ∃ (acc : List Nat) (o : Option Nat), (hexP (l.drop i) acc o = hexP l [] none ∧ acc.length ≤ i) ∧ ∃ (j3 : D) (j4 : D), ρ = [tS l, .lst (acc.map dN), hD o, j3, j4]) (by
    show (g1 (dT0 5592405 Txt.lower) (gv 0) _ >>= dIter) = _
    have e : g1 (dT0 5592405 Txt.lower) (gv 0) [tS l, .lst [], .non, .non, .non] = .ok (tS (l.map PyProof.Rows.lo1)) := lw
    rw [e]
    exact it) ⟨[], none, ⟨rfl, Nat.le_refl _⟩, _, _, rfl⟩ ?_ ?_
  · rintro i c hc ρ ⟨acc, o, ⟨inv, la⟩, j3, j4, rfl⟩
    obtain ⟨hil, ec⟩ := List.getElem?_eq_some_iff.mp hc
    have gd : l.getD i 0 = c := by rw [List.getD_eq_getElem?_getD, hc]; rfl
    rw [tk i hil, gd] at inv
    have c128 := h c (List.mem_of_getElem? hc)
    have bk := lo_blk c c128
    have fd : dFind (cS [48, 49, 50, 51, 52, 53, 54, 55, 56, 57, 97, 98, 99, 100, 101, 102]) (tS [PyProof.Rows.lo1 c]) = .ok (.int (fgI (fgN c))) := congrArg (fun z => R.ok (D.int z)) (fq c c128)
    have inn := tIn (PyProof.Rows.lo1 c) [32, 10]
    rw [bk] at inn
    refine ⟨[tS l, .lst (acc.map dN), hD o, tS [PyProof.Rows.lo1 c], j4], rfl, ?_⟩
    have isn : ∀ z, gB (g2 dIsN (gv 2) (gc .non)) [tS l, .lst (acc.map dN), hD o, tS [PyProof.Rows.lo1 c], z] = .ok (decide (o = none)) := fun z => by
      cases o <;> rfl
    refine W.iteS (p := blk c = true ∧ o = none) (gAnd_dec (gB_bl (show (R.ok (tS [PyProof.Rows.lo1 c]) >>= fun a => R.ok (tS [32, 10]) >>= fun b => dInS false a b) = _ by
      rw [bind_ok, bind_ok, inn]
      cases blk c <;> rfl)) (isn j4)) (fun z => ?_) (fun z => W.nxS ?_)
    · obtain ⟨z1, z2⟩ := z
      subst z2
      rw [hexP_blk z1] at inv
      exact W.ctS ⟨acc, none, ⟨inv, by omega⟩, _, _, rfl⟩
    · have inv : (match fgN c with
        | none => none
        | some v => hexP (l.drop (i + 1)) (hexU v acc o).1 (hexU v acc o).2) = hexP l [] none := by
        refine Eq.trans ?_ inv
        show _ = if blk c = true ∧ o = none then _ else _
        rw [if_neg z]
      generalize tS [PyProof.Rows.lo1 c] = C at *
      refine W.step (ρ' := [tS l, .lst (acc.map dN), hD o, C, .int (fgI (fgN c))]) (by
        show (gT2 dFind (gc (.str (cS [48, 49, 50, 51, 52, 53, 54, 55, 56, 57, 97, 98, 99, 100, 101, 102]))) (gv 3) [tS l, .lst (acc.map dN), hD o, C, j4] >>= fun d => R.ok (Fl.nx _)) = _
        show (dFind (cS [48, 49, 50, 51, 52, 53, 54, 55, 56, 57, 97, 98, 99, 100, 101, 102]) C >>= fun d => R.ok (Fl.nx _)) = _
        rw [fd]
        rfl) ?_
      refine W.iteS (p := fgI (fgN c) < 0) (by
        generalize D.lst (acc.map dN) = AL at *
        generalize hD o = HO at *
        simp -implicitDefEqProofs only [finF, gSeq, gSet, gDrop, gRet, gIte, gNx, gIf, gB, gAnd, gOr, gNot, toBl, toB, g1, g2, gv, gc, gAll, gsC, gsN, gIter, dIter, gI, gJ, gFor, gUnp, gAug, gtN, gtT, gtU, gtsC, gtsN, nlD, nlB, goN, goS, toI, gSl, gtt, bind_ok, bind_bad, bind_exc, pure_ok, oR_some, oR_none, noX_ok, noX_bad, Option.bind_some, List.getD_cons_zero, List.getD_cons_succ, List.getD_nil, List.set_cons_zero, List.set_cons_succ, List.length_cons, List.length_nil, Nat.reduceAdd, dAdd_i, dSub_i, dNeg_i, dLt_i, dLe_i, dGt_i, dGe_i, dAnd_i, dOr_i, dXor_i, dEq_i, dNe_p, dMax_ii, dMin_ii, dAugAdd_i, dAugSub_i, dAugBitXor_i, dIsi_ii, dIsi_bi, dIsi_tt, if_true, ite_true, ite_false, Bool.false_eq_true, if_false, Bool.not_true, Bool.not_false, reduceIte, dMod_s, dDiv_s, Int.reduceLT, Int.reduceLE, Int.reduceNeg, Int.reducePow, Nat.reducePow, Nat.reduceLT, Int.reduceToNat, decide_eq_true_eq, Bool.true_eq_false, dLst_0, dTup_0, dLst_1, dTup_1, dLst_2, dTup_2, dLst_3, dTup_3, dLst_4, dTup_4, dLst_5, dTup_5, dLst_6, dTup_6, dLst_7, dTup_7, dLst_8, dTup_8, dLst_9, dTup_9, decide_true, decide_false, dIsi2_t, dIsi2_l, dIsi2_i, dIsi2_n, dIsi2_s, dIsi_tl, dIsi_ti, dIsi_tn, dIsi_ts, dIsi_si, dIsi_sn, dIsi_ss, dIsi_in, dIsi_it, dIsi_il, dIsi_is, dIsi_ib, dIsi_bb]) (fun zn => ?_) (fun zn => W.nxS ?_)
      · rw [fgI_neg] at zn
        rw [zn] at inv
        exact W.seq (W.raise (h2 inv.symm))
      · rw [fgI_neg] at zn
        obtain ⟨v, ev⟩ : ∃ v, fgN c = some v := by
          cases q : fgN c with
          | none => exact absurd q zn
          | some v => exact ⟨v, rfl⟩
        rw [ev] at inv ⊢
        show W _ [tS l, .lst (acc.map dN), hD o, C, .int (v : Nat)] _
        refine W.ite (p := o = none) (isn _) (fun zo => ?_) (fun zo => ?_)
        · subst zo
          exact W.nx1 (ρ' := [tS l, .lst (acc.map dN), .int (v : Nat), C, .int (v : Nat)]) rfl ⟨acc, some v, ⟨inv, by omega⟩, _, _, rfl⟩
        · obtain ⟨u, eu⟩ : ∃ u, o = some u := by
            cases o with
            | none => exact absurd rfl zo
            | some u => exact ⟨u, rfl⟩
          subst eu
          have m16 : dMul (.int (u : Nat)) (.int 16) = .ok (.int ((u : Int) * 16)) := dMul_r (by decide) (by decide)
          refine W.step (ρ' := [tS l, .lst ((acc ++ [u * 16 + v]).map dN), .int (u : Nat), C, .int (v : Nat)]) (Eq.trans (gApp_s (ds := acc.map dN) (d := dN (u * 16 + v)) rfl (by
            show _ = R.ok (D.int _)
            rw [show ((u * 16 + v : Nat) : Int) = (u : Int) * 16 + (v : Int) by omega]
            show g2 dAdd (g2 dMul (gv 2) (gc (.int 16))) (gv 4) [tS l, .lst (acc.map dN), .int (u : Nat), C, .int (v : Nat)] = _
            generalize D.lst (acc.map dN) = AL at *
            generalize tS l = TL at *
            simp -implicitDefEqProofs only [finF, gSeq, gSet, gDrop, gRet, gIte, gNx, gIf, gB, gAnd, gOr, gNot, toBl, toB, g1, g2, gv, gc, gAll, gsC, gsN, gIter, dIter, gI, gJ, gFor, gUnp, gAug, gtN, gtT, gtU, gtsC, gtsN, nlD, nlB, goN, goS, toI, gSl, gtt, bind_ok, bind_bad, bind_exc, pure_ok, oR_some, oR_none, noX_ok, noX_bad, Option.bind_some, List.getD_cons_zero, List.getD_cons_succ, List.getD_nil, List.set_cons_zero, List.set_cons_succ, List.length_cons, List.length_nil, Nat.reduceAdd, dAdd_i, dSub_i, dNeg_i, dLt_i, dLe_i, dGt_i, dGe_i, dAnd_i, dOr_i, dXor_i, dEq_i, dNe_p, dMax_ii, dMin_ii, dAugAdd_i, dAugSub_i, dAugBitXor_i, dIsi_ii, dIsi_bi, dIsi_tt, if_true, ite_true, ite_false, Bool.false_eq_true, if_false, Bool.not_true, Bool.not_false, reduceIte, dMod_s, dDiv_s, Int.reduceLT, Int.reduceLE, Int.reduceNeg, Int.reducePow, Nat.reducePow, Nat.reduceLT, Int.reduceToNat, decide_eq_true_eq, Bool.true_eq_false, dLst_0, dTup_0, dLst_1, dTup_1, dLst_2, dTup_2, dLst_3, dTup_3, dLst_4, dTup_4, dLst_5, dTup_5, dLst_6, dTup_6, dLst_7, dTup_7, dLst_8, dTup_8, dLst_9, dTup_9, decide_true, decide_false, dIsi2_t, dIsi2_l, dIsi2_i, dIsi2_n, dIsi2_s, dIsi_tl, dIsi_ti, dIsi_tn, dIsi_ts, dIsi_si, dIsi_sn, dIsi_ss, dIsi_in, dIsi_it, dIsi_il, dIsi_is, dIsi_ib, dIsi_bb, m16]) (by rw [List.length_map, sizeLine_eq]; omega)) (by rw [List.map_append]; rfl)) ?_
          exact W.nx1 (ρ' := [tS l, .lst ((acc ++ [u * 16 + v]).map dN), .non, C, .int (v : Nat)]) rfl ⟨acc ++ [u * 16 + v], none, ⟨inv, by rw [List.length_append]; show acc.length + 1 ≤ _; omega⟩, _, _, rfl⟩
  · rintro ρ ⟨acc, o, ⟨inv, la⟩, j3, j4, rfl⟩
    rw [List.drop_length] at inv
    cases o with
    | none =>
      have tp : dTuple true [.lst (acc.map dN)] = .ok (.tup (acc.map dN)) := if_pos fun _ => all_dN acc
      refine W.iteSF rfl (W.nxS (W.rt1 (d := .tup (acc.map dN)) ?_ (h1 acc inv.symm)))
      generalize tS l = TL at *
      generalize D.lst (acc.map dN) = AL at *
      simp -implicitDefEqProofs only [finF, gSeq, gSet, gDrop, gRet, gIte, gNx, gIf, gB, gAnd, gOr, gNot, toBl, toB, g1, g2, gv, gc, gAll, gsC, gsN, gIter, dIter, gI, gJ, gFor, gUnp, gAug, gtN, gtT, gtU, gtsC, gtsN, nlD, nlB, goN, goS, toI, gSl, gtt, bind_ok, bind_bad, bind_exc, pure_ok, oR_some, oR_none, noX_ok, noX_bad, Option.bind_some, List.getD_cons_zero, List.getD_cons_succ, List.getD_nil, List.set_cons_zero, List.set_cons_succ, List.length_cons, List.length_nil, Nat.reduceAdd, dAdd_i, dSub_i, dNeg_i, dLt_i, dLe_i, dGt_i, dGe_i, dAnd_i, dOr_i, dXor_i, dEq_i, dNe_p, dMax_ii, dMin_ii, dAugAdd_i, dAugSub_i, dAugBitXor_i, dIsi_ii, dIsi_bi, dIsi_tt, if_true, ite_true, ite_false, Bool.false_eq_true, if_false, Bool.not_true, Bool.not_false, reduceIte, dMod_s, dDiv_s, Int.reduceLT, Int.reduceLE, Int.reduceNeg, Int.reducePow, Nat.reducePow, Nat.reduceLT, Int.reduceToNat, decide_eq_true_eq, Bool.true_eq_false, dLst_0, dTup_0, dLst_1, dTup_1, dLst_2, dTup_2, dLst_3, dTup_3, dLst_4, dTup_4, dLst_5, dTup_5, dLst_6, dTup_6, dLst_7, dTup_7, dLst_8, dTup_8, dLst_9, dTup_9, decide_true, decide_false, dIsi2_t, dIsi2_l, dIsi2_i, dIsi2_n, dIsi2_s, dIsi_tl, dIsi_ti, dIsi_tn, dIsi_ts, dIsi_si, dIsi_sn, dIsi_ss, dIsi_in, dIsi_it, dIsi_il, dIsi_is, dIsi_ib, dIsi_bb, tp]
    | some u => exact W.iteST rfl (W.seq (W.raise (h2 inv.symm)))
theorem unhexed_some (cx : Nat → Addr) {l bs : List Nat} (hl : l.length ≤ 5000000) (h : low l) (e : hexP l [] none = some bs) : f_unhexed cx [tS l] = .ok (.tup (bs.map dN)) := by
  rw [f_unhexed_run]
  exact run_of (unhexed_W cx hl h (fun bs' e' => by rw [e] at e'; cases e'; rfl) fun z => by rw [e] at z; cases z)
theorem unhexed_none (cx : Nat → Addr) {l : List Nat} (hl : l.length ≤ 5000000) (h : low l) (e : hexP l [] none = none) : f_unhexed cx [tS l] = .exc ⟨cx 1, []⟩ := by
  rw [f_unhexed_run]
  exact rp_exc (W.fnX (unhexed_W cx hl h (fun bs' e' => by rw [e] at e'; cases e') fun _ => rfl))
end LW
namespace LW
open PySem L2 DL
theorem whole_eq (n : Int) : f__law_whole [.int n] = .ok (.bl true) := by
  rw [f__law_whole_run, g__law_whole]
  simp -implicitDefEqProofs only [finF, gSeq, gSet, gDrop, gRet, gIte, gNx, gIf, gB, gAnd, gOr, gNot, toBl, toB, g1, g2, gv, gc, gAll, gsC, gsN, gIter, dIter, gI, gJ, gFor, gUnp, gAug, gtN, gtT, gtU, gtsC, gtsN, nlD, nlB, goN, goS, toI, gSl, gtt, bind_ok, bind_bad, bind_exc, pure_ok, oR_some, oR_none, noX_ok, noX_bad, Option.bind_some, List.getD_cons_zero, List.getD_cons_succ, List.getD_nil, List.set_cons_zero, List.set_cons_succ, List.length_cons, List.length_nil, Nat.reduceAdd, dAdd_i, dSub_i, dNeg_i, dLt_i, dLe_i, dGt_i, dGe_i, dAnd_i, dOr_i, dXor_i, dEq_i, dNe_p, dMax_ii, dMin_ii, dAugAdd_i, dAugSub_i, dAugBitXor_i, dIsi_ii, dIsi_bi, dIsi_tt, if_true, ite_true, ite_false, Bool.false_eq_true, if_false, Bool.not_true, Bool.not_false, reduceIte, dMod_s, dDiv_s, Int.reduceLT, Int.reduceLE, Int.reduceNeg, Int.reducePow, Nat.reducePow, Nat.reduceLT, Int.reduceToNat, decide_eq_true_eq, Bool.true_eq_false, dLst_0, dTup_0, dLst_1, dTup_1, dLst_2, dTup_2, dLst_3, dTup_3, dLst_4, dTup_4, dLst_5, dTup_5, dLst_6, dTup_6, dLst_7, dTup_7, dLst_8, dTup_8, dLst_9, dTup_9, decide_true, decide_false, dIsi2_t, dIsi2_l, dIsi2_i, dIsi2_n, dIsi2_s, dIsi_tl, dIsi_ti, dIsi_tn, dIsi_ts, dIsi_si, dIsi_sn, dIsi_ss, dIsi_in, dIsi_it, dIsi_il, dIsi_is, dIsi_ib, dIsi_bb]
def primes : List Int := [99991, 99989, 99971, 99961, 99929, 99923, 99907, 99901, 99881, 99877, 99871]
def mixI (c k m : Int) : Int :=
  let made := (c + 7 * k) * 48271 % primes[(k % 11).toNat]!
  (made * made * 7 + made + k) % 1000003 % m
theorem primes_at (k : Int) : ∃ p, primes[(k % 11).toNat]! = p ∧ dIx (.lst (primes.map .int)) (.int (k % 11)) = .ok (.int p) ∧ 99871 ≤ p ∧ p ≤ 99991 := by
  have h0 : 0 ≤ k % 11 := by omega
  have h1 : k % 11 < 11 := by omega
  generalize k % 11 = j at *
  have : j = 0 ∨ j = 1 ∨ j = 2 ∨ j = 3 ∨ j = 4 ∨ j = 5 ∨ j = 6 ∨ j = 7 ∨ j = 8 ∨ j = 9 ∨ j = 10 := by omega
  rcases this with h | h | h | h | h | h | h | h | h | h | h <;> subst h <;> exact ⟨_, rfl, rfl, by decide, by decide⟩
theorem mixed_eq (c k m : Int) (hk : 0 ≤ k) (hk' : k < 2 ^ 60) (hm : 0 < m) : f__law_mixed [.int c, .int k, .int m] = .ok (.int (mixI c k m)) := by
  obtain ⟨p, h1, h2, h3, h4⟩ := primes_at k
  have h2' : dIx (D.lst [.int 99991, .int 99989, .int 99971, .int 99961, .int 99929, .int 99923, .int 99907, .int 99901, .int 99881, .int 99877, .int 99871]) (.int (k % 11)) = .ok (.int p) := h2
  have b1 : 0 ≤ (c + 7 * k) * 48271 % p := Int.emod_nonneg _ (by omega)
  have b2 : (c + 7 * k) * 48271 % p < p := Int.emod_lt_of_pos _ (by omega)
  have e1 : dMul (.int 7) (.int k) = .ok (.int (7 * k)) := dMul_l (by omega) (by omega)
  have e2 : dMul (.int (c + 7 * k)) (.int 48271) = .ok (.int ((c + 7 * k) * 48271)) := dMul_r (by omega) (by omega)
  have e3 : dMod (.int ((c + 7 * k) * 48271)) (.int p) = .ok (.int ((c + 7 * k) * 48271 % p)) := dMod_s (by omega)
  generalize hq : (c + 7 * k) * 48271 % p = made at *
  have e4 : dMul (.int made) (.int made) = .ok (.int (made * made)) := dMul_l (by omega) (by omega)
  have e5 : dMul (.int (made * made)) (.int 7) = .ok (.int (made * made * 7)) := dMul_r (by omega) (by omega)
  have e6 : dMod (.int ((made * made * 7 + made + k) % 1000003)) (.int m) = .ok (.int ((made * made * 7 + made + k) % 1000003 % m)) := dMod_s hm
  rw [f__law_mixed_run, g__law_mixed]
  simp -implicitDefEqProofs only [finF, gSeq, gSet, gDrop, gRet, gIte, gNx, gIf, gB, gAnd, gOr, gNot, toBl, toB, g1, g2, gv, gc, gAll, gsC, gsN, gIter, dIter, gI, gJ, gFor, gUnp, gAug, gtN, gtT, gtU, gtsC, gtsN, nlD, nlB, goN, goS, toI, gSl, gtt, bind_ok, bind_bad, bind_exc, pure_ok, oR_some, oR_none, noX_ok, noX_bad, Option.bind_some, List.getD_cons_zero, List.getD_cons_succ, List.getD_nil, List.set_cons_zero, List.set_cons_succ, List.length_cons, List.length_nil, Nat.reduceAdd, dAdd_i, dSub_i, dNeg_i, dLt_i, dLe_i, dGt_i, dGe_i, dAnd_i, dOr_i, dXor_i, dEq_i, dNe_p, dMax_ii, dMin_ii, dAugAdd_i, dAugSub_i, dAugBitXor_i, dIsi_ii, dIsi_bi, dIsi_tt, if_true, ite_true, ite_false, Bool.false_eq_true, if_false, Bool.not_true, Bool.not_false, reduceIte, dMod_s, dDiv_s, Int.reduceLT, Int.reduceLE, Int.reduceNeg, Int.reducePow, Nat.reducePow, Nat.reduceLT, Int.reduceToNat, decide_eq_true_eq, Bool.true_eq_false, dLst_0, dTup_0, dLst_1, dTup_1, dLst_2, dTup_2, dLst_3, dTup_3, dLst_4, dTup_4, dLst_5, dTup_5, dLst_6, dTup_6, dLst_7, dTup_7, dLst_8, dTup_8, dLst_9, dTup_9, decide_true, decide_false, dIsi2_t, dIsi2_l, dIsi2_i, dIsi2_n, dIsi2_s, dIsi_tl, dIsi_ti, dIsi_tn, dIsi_ts, dIsi_si, dIsi_sn, dIsi_ss, dIsi_in, dIsi_it, dIsi_il, dIsi_is, dIsi_ib, dIsi_bb, dLst_s (show ([D.int 99991, .int 99989, .int 99971, .int 99961, .int 99929, .int 99923, .int 99907, .int 99901, .int 99881, .int 99877, .int 99871] : List D).length ≤ sizeLine by decide), e1, e2, e3, e4, e5, e6, h2']
  unfold mixI
  rw [h1, hq]
theorem mixI_lt (c k m : Int) (h : 0 < m) : 0 ≤ mixI c k m ∧ mixI c k m < m := ⟨Int.emod_nonneg _ (by omega), Int.emod_lt_of_pos _ h⟩
theorem cell_at_eq (ns : List Int) (k : Int) (h : 0 ≤ k) : f__law_cell_at [.lst (ns.map .int), .int k] = .ok (.int (ns.getD k.toNat 0)) := by
  have hl : dLen [.lst (ns.map D.int)] = .ok (.int ns.length) := by show R.ok (D.int _) = _; rw [List.length_map]
  rw [f__law_cell_at_run, g__law_cell_at]
  by_cases c : k < ns.length
  · simp -implicitDefEqProofs only [finF, gSeq, gSet, gDrop, gRet, gIte, gNx, gIf, gB, gAnd, gOr, gNot, toBl, toB, g1, g2, gv, gc, gAll, gsC, gsN, gIter, dIter, gI, gJ, gFor, gUnp, gAug, gtN, gtT, gtU, gtsC, gtsN, nlD, nlB, goN, goS, toI, gSl, gtt, bind_ok, bind_bad, bind_exc, pure_ok, oR_some, oR_none, noX_ok, noX_bad, Option.bind_some, List.getD_cons_zero, List.getD_cons_succ, List.getD_nil, List.set_cons_zero, List.set_cons_succ, List.length_cons, List.length_nil, Nat.reduceAdd, dAdd_i, dSub_i, dNeg_i, dLt_i, dLe_i, dGt_i, dGe_i, dAnd_i, dOr_i, dXor_i, dEq_i, dNe_p, dMax_ii, dMin_ii, dAugAdd_i, dAugSub_i, dAugBitXor_i, dIsi_ii, dIsi_bi, dIsi_tt, if_true, ite_true, ite_false, Bool.false_eq_true, if_false, Bool.not_true, Bool.not_false, reduceIte, dMod_s, dDiv_s, Int.reduceLT, Int.reduceLE, Int.reduceNeg, Int.reducePow, Nat.reducePow, Nat.reduceLT, Int.reduceToNat, decide_eq_true_eq, Bool.true_eq_false, dLst_0, dTup_0, dLst_1, dTup_1, dLst_2, dTup_2, dLst_3, dTup_3, dLst_4, dTup_4, dLst_5, dTup_5, dLst_6, dTup_6, dLst_7, dTup_7, dLst_8, dTup_8, dLst_9, dTup_9, decide_true, decide_false, dIsi2_t, dIsi2_l, dIsi2_i, dIsi2_n, dIsi2_s, dIsi_tl, dIsi_ti, dIsi_tn, dIsi_ts, dIsi_si, dIsi_sn, dIsi_ss, dIsi_in, dIsi_it, dIsi_il, dIsi_is, dIsi_ib, dIsi_bb, hl, c, decide_true, ix_int h c]
  · have e : ns.getD k.toNat 0 = 0 := by rw [List.getD_eq_getElem?_getD, List.getElem?_eq_none (by omega)]; rfl
    simp -implicitDefEqProofs only [finF, gSeq, gSet, gDrop, gRet, gIte, gNx, gIf, gB, gAnd, gOr, gNot, toBl, toB, g1, g2, gv, gc, gAll, gsC, gsN, gIter, dIter, gI, gJ, gFor, gUnp, gAug, gtN, gtT, gtU, gtsC, gtsN, nlD, nlB, goN, goS, toI, gSl, gtt, bind_ok, bind_bad, bind_exc, pure_ok, oR_some, oR_none, noX_ok, noX_bad, Option.bind_some, List.getD_cons_zero, List.getD_cons_succ, List.getD_nil, List.set_cons_zero, List.set_cons_succ, List.length_cons, List.length_nil, Nat.reduceAdd, dAdd_i, dSub_i, dNeg_i, dLt_i, dLe_i, dGt_i, dGe_i, dAnd_i, dOr_i, dXor_i, dEq_i, dNe_p, dMax_ii, dMin_ii, dAugAdd_i, dAugSub_i, dAugBitXor_i, dIsi_ii, dIsi_bi, dIsi_tt, if_true, ite_true, ite_false, Bool.false_eq_true, if_false, Bool.not_true, Bool.not_false, reduceIte, dMod_s, dDiv_s, Int.reduceLT, Int.reduceLE, Int.reduceNeg, Int.reducePow, Nat.reducePow, Nat.reduceLT, Int.reduceToNat, decide_eq_true_eq, Bool.true_eq_false, dLst_0, dTup_0, dLst_1, dTup_1, dLst_2, dTup_2, dLst_3, dTup_3, dLst_4, dTup_4, dLst_5, dTup_5, dLst_6, dTup_6, dLst_7, dTup_7, dLst_8, dTup_8, dLst_9, dTup_9, decide_true, decide_false, dIsi2_t, dIsi2_l, dIsi2_i, dIsi2_n, dIsi2_s, dIsi_tl, dIsi_ti, dIsi_tn, dIsi_ts, dIsi_si, dIsi_sn, dIsi_ss, dIsi_in, dIsi_it, dIsi_il, dIsi_is, dIsi_ib, dIsi_bb, hl, c, decide_false, e]
/-! _law_alike of a thing and itself -/
inductive Alk : Nat → D → Prop
  | int {n : Nat} (i : Int) : Alk (n + 1) (.int i)
  | str {n : Nat} {x : Str} : OkD 64 (.str x) → Alk (n + 1) (.str x)
  | tup {n : Nat} {ds : List D} : ds.length ≤ 1000000 → (∀ d ∈ ds, Alk n d) → Alk (n + 1) (.tup ds)
  | lst {n : Nat} {ds : List D} : ds.length ≤ 1000000 → (∀ d ∈ ds, Alk n d) → Alk (n + 1) (.lst ds)
theorem Alk.mono : ∀ {n m : Nat} {d : D}, Alk n d → n ≤ m → Alk m d
  | n + 1, m + 1, _, .int i, _ => .int i
  | n + 1, m + 1, _, .str h, _ => .str h
  | n + 1, m + 1, _, .tup hl h, e => .tup hl fun d hd => (h d hd).mono (Nat.le_of_succ_le_succ e)
  | n + 1, m + 1, _, .lst hl h, e => .lst hl fun d hd => (h d hd).mono (Nat.le_of_succ_le_succ e)
theorem all_blT {α : Type} : ∀ bs : List α, dAll [.lst (bs.map fun _ => D.bl true)] = .ok (.bl true) := fun bs => by
  have e : bs.map (fun _ => D.bl true) = (bs.map fun _ => true).map D.bl := by rw [List.map_map]; rfl
  show oR ((dBls _).map _) = _
  rw [e, dBls_map]
  show R.ok (D.bl _) = _
  congr 2
  simp
theorem alike_eq : ∀ (n : Nat) (d : D), Alk n d → F__law_alike n [d, d] = .ok (.bl true)
  | 0, _, h => nomatch h
  | n + 1, .int i, .int _ => by
    rw [F__law_alike_run, g__law_alike]
    exact Ok.eq (W.fn (W.iteSF (by simp -implicitDefEqProofs (disch := omega) only [finF, gSeq, gSet, gDrop, gRet, gIte, gNx, gIf, gB, gAnd, gOr, gNot, toBl, toB, g1, g2, gv, gc, gAll, gsC, gsN, gIter, dIter, gI, gJ, gFor, gUnp, gAug, gtN, gtT, gtU, gtsC, gtsN, nlD, nlB, goN, goS, toI, gSl, gtt, bind_ok, bind_bad, bind_exc, pure_ok, oR_some, oR_none, noX_ok, noX_bad, Option.bind_some, List.getD_cons_zero, List.getD_cons_succ, List.getD_nil, List.set_cons_zero, List.set_cons_succ, List.length_cons, List.length_nil, Nat.reduceAdd, dAdd_i, dSub_i, dNeg_i, dLt_i, dLe_i, dGt_i, dGe_i, dAnd_i, dOr_i, dXor_i, dEq_i, dNe_p, dMax_ii, dMin_ii, dAugAdd_i, dAugSub_i, dAugBitXor_i, dIsi_ii, dIsi_bi, dIsi_tt, if_true, ite_true, ite_false, Bool.false_eq_true, if_false, Bool.not_true, Bool.not_false, reduceIte, dMod_s, dDiv_s, Int.reduceLT, Int.reduceLE, Int.reduceNeg, Int.reducePow, Nat.reducePow, Nat.reduceLT, Int.reduceToNat, decide_eq_true_eq, Bool.true_eq_false, dLst_0, dTup_0, dLst_1, dTup_1, dLst_2, dTup_2, dLst_3, dTup_3, dLst_4, dTup_4, dLst_5, dTup_5, dLst_6, dTup_6, dLst_7, dTup_7, dLst_8, dTup_8, dLst_9, dTup_9, decide_true, decide_false, dIsi2_t, dIsi2_l, dIsi2_i, dIsi2_n, dIsi2_s, dIsi_tl, dIsi_ti, dIsi_tn, dIsi_ts, dIsi_si, dIsi_sn, dIsi_ss, dIsi_in, dIsi_it, dIsi_il, dIsi_is, dIsi_ib, dIsi_bb, dMul_l, dMul_r, dShr_s, rng1N]; first | done | exact rfl) (W.nxS (W.iteSF (by simp -implicitDefEqProofs (disch := omega) only [finF, gSeq, gSet, gDrop, gRet, gIte, gNx, gIf, gB, gAnd, gOr, gNot, toBl, toB, g1, g2, gv, gc, gAll, gsC, gsN, gIter, dIter, gI, gJ, gFor, gUnp, gAug, gtN, gtT, gtU, gtsC, gtsN, nlD, nlB, goN, goS, toI, gSl, gtt, bind_ok, bind_bad, bind_exc, pure_ok, oR_some, oR_none, noX_ok, noX_bad, Option.bind_some, List.getD_cons_zero, List.getD_cons_succ, List.getD_nil, List.set_cons_zero, List.set_cons_succ, List.length_cons, List.length_nil, Nat.reduceAdd, dAdd_i, dSub_i, dNeg_i, dLt_i, dLe_i, dGt_i, dGe_i, dAnd_i, dOr_i, dXor_i, dEq_i, dNe_p, dMax_ii, dMin_ii, dAugAdd_i, dAugSub_i, dAugBitXor_i, dIsi_ii, dIsi_bi, dIsi_tt, if_true, ite_true, ite_false, Bool.false_eq_true, if_false, Bool.not_true, Bool.not_false, reduceIte, dMod_s, dDiv_s, Int.reduceLT, Int.reduceLE, Int.reduceNeg, Int.reducePow, Nat.reducePow, Nat.reduceLT, Int.reduceToNat, decide_eq_true_eq, Bool.true_eq_false, dLst_0, dTup_0, dLst_1, dTup_1, dLst_2, dTup_2, dLst_3, dTup_3, dLst_4, dTup_4, dLst_5, dTup_5, dLst_6, dTup_6, dLst_7, dTup_7, dLst_8, dTup_8, dLst_9, dTup_9, decide_true, decide_false, dIsi2_t, dIsi2_l, dIsi2_i, dIsi2_n, dIsi2_s, dIsi_tl, dIsi_ti, dIsi_tn, dIsi_ts, dIsi_si, dIsi_sn, dIsi_ss, dIsi_in, dIsi_it, dIsi_il, dIsi_is, dIsi_ib, dIsi_bb, dMul_l, dMul_r, dShr_s, rng1N]; first | done | exact rfl) (W.nxS (W.rt1 (by simp -implicitDefEqProofs (disch := omega) only [finF, gSeq, gSet, gDrop, gRet, gIte, gNx, gIf, gB, gAnd, gOr, gNot, toBl, toB, g1, g2, gv, gc, gAll, gsC, gsN, gIter, dIter, gI, gJ, gFor, gUnp, gAug, gtN, gtT, gtU, gtsC, gtsN, nlD, nlB, goN, goS, toI, gSl, gtt, bind_ok, bind_bad, bind_exc, pure_ok, oR_some, oR_none, noX_ok, noX_bad, Option.bind_some, List.getD_cons_zero, List.getD_cons_succ, List.getD_nil, List.set_cons_zero, List.set_cons_succ, List.length_cons, List.length_nil, Nat.reduceAdd, dAdd_i, dSub_i, dNeg_i, dLt_i, dLe_i, dGt_i, dGe_i, dAnd_i, dOr_i, dXor_i, dEq_i, dNe_p, dMax_ii, dMin_ii, dAugAdd_i, dAugSub_i, dAugBitXor_i, dIsi_ii, dIsi_bi, dIsi_tt, if_true, ite_true, ite_false, Bool.false_eq_true, if_false, Bool.not_true, Bool.not_false, reduceIte, dMod_s, dDiv_s, Int.reduceLT, Int.reduceLE, Int.reduceNeg, Int.reducePow, Nat.reducePow, Nat.reduceLT, Int.reduceToNat, decide_eq_true_eq, Bool.true_eq_false, dLst_0, dTup_0, dLst_1, dTup_1, dLst_2, dTup_2, dLst_3, dTup_3, dLst_4, dTup_4, dLst_5, dTup_5, dLst_6, dTup_6, dLst_7, dTup_7, dLst_8, dTup_8, dLst_9, dTup_9, decide_true, decide_false, dIsi2_t, dIsi2_l, dIsi2_i, dIsi2_n, dIsi2_s, dIsi_tl, dIsi_ti, dIsi_tn, dIsi_ts, dIsi_si, dIsi_sn, dIsi_ss, dIsi_in, dIsi_it, dIsi_il, dIsi_is, dIsi_ib, dIsi_bb, dMul_l, dMul_r, dShr_s, rng1N, whole_eq]; first | done | exact rfl) rfl))))))
  | n + 1, .str x, .str h => by
    have e := dEq_self h
    rw [F__law_alike_run, g__law_alike]
    exact Ok.eq (W.fn (W.iteSF (by simp -implicitDefEqProofs (disch := omega) only [finF, gSeq, gSet, gDrop, gRet, gIte, gNx, gIf, gB, gAnd, gOr, gNot, toBl, toB, g1, g2, gv, gc, gAll, gsC, gsN, gIter, dIter, gI, gJ, gFor, gUnp, gAug, gtN, gtT, gtU, gtsC, gtsN, nlD, nlB, goN, goS, toI, gSl, gtt, bind_ok, bind_bad, bind_exc, pure_ok, oR_some, oR_none, noX_ok, noX_bad, Option.bind_some, List.getD_cons_zero, List.getD_cons_succ, List.getD_nil, List.set_cons_zero, List.set_cons_succ, List.length_cons, List.length_nil, Nat.reduceAdd, dAdd_i, dSub_i, dNeg_i, dLt_i, dLe_i, dGt_i, dGe_i, dAnd_i, dOr_i, dXor_i, dEq_i, dNe_p, dMax_ii, dMin_ii, dAugAdd_i, dAugSub_i, dAugBitXor_i, dIsi_ii, dIsi_bi, dIsi_tt, if_true, ite_true, ite_false, Bool.false_eq_true, if_false, Bool.not_true, Bool.not_false, reduceIte, dMod_s, dDiv_s, Int.reduceLT, Int.reduceLE, Int.reduceNeg, Int.reducePow, Nat.reducePow, Nat.reduceLT, Int.reduceToNat, decide_eq_true_eq, Bool.true_eq_false, dLst_0, dTup_0, dLst_1, dTup_1, dLst_2, dTup_2, dLst_3, dTup_3, dLst_4, dTup_4, dLst_5, dTup_5, dLst_6, dTup_6, dLst_7, dTup_7, dLst_8, dTup_8, dLst_9, dTup_9, decide_true, decide_false, dIsi2_t, dIsi2_l, dIsi2_i, dIsi2_n, dIsi2_s, dIsi_tl, dIsi_ti, dIsi_tn, dIsi_ts, dIsi_si, dIsi_sn, dIsi_ss, dIsi_in, dIsi_it, dIsi_il, dIsi_is, dIsi_ib, dIsi_bb, dMul_l, dMul_r, dShr_s, rng1N]; first | done | exact rfl) (W.nxS (W.iteST (by simp -implicitDefEqProofs (disch := omega) only [finF, gSeq, gSet, gDrop, gRet, gIte, gNx, gIf, gB, gAnd, gOr, gNot, toBl, toB, g1, g2, gv, gc, gAll, gsC, gsN, gIter, dIter, gI, gJ, gFor, gUnp, gAug, gtN, gtT, gtU, gtsC, gtsN, nlD, nlB, goN, goS, toI, gSl, gtt, bind_ok, bind_bad, bind_exc, pure_ok, oR_some, oR_none, noX_ok, noX_bad, Option.bind_some, List.getD_cons_zero, List.getD_cons_succ, List.getD_nil, List.set_cons_zero, List.set_cons_succ, List.length_cons, List.length_nil, Nat.reduceAdd, dAdd_i, dSub_i, dNeg_i, dLt_i, dLe_i, dGt_i, dGe_i, dAnd_i, dOr_i, dXor_i, dEq_i, dNe_p, dMax_ii, dMin_ii, dAugAdd_i, dAugSub_i, dAugBitXor_i, dIsi_ii, dIsi_bi, dIsi_tt, if_true, ite_true, ite_false, Bool.false_eq_true, if_false, Bool.not_true, Bool.not_false, reduceIte, dMod_s, dDiv_s, Int.reduceLT, Int.reduceLE, Int.reduceNeg, Int.reducePow, Nat.reducePow, Nat.reduceLT, Int.reduceToNat, decide_eq_true_eq, Bool.true_eq_false, dLst_0, dTup_0, dLst_1, dTup_1, dLst_2, dTup_2, dLst_3, dTup_3, dLst_4, dTup_4, dLst_5, dTup_5, dLst_6, dTup_6, dLst_7, dTup_7, dLst_8, dTup_8, dLst_9, dTup_9, decide_true, decide_false, dIsi2_t, dIsi2_l, dIsi2_i, dIsi2_n, dIsi2_s, dIsi_tl, dIsi_ti, dIsi_tn, dIsi_ts, dIsi_si, dIsi_sn, dIsi_ss, dIsi_in, dIsi_it, dIsi_il, dIsi_is, dIsi_ib, dIsi_bb, dMul_l, dMul_r, dShr_s, rng1N]; first | done | exact rfl) (W.rtS (by simp -implicitDefEqProofs (disch := omega) only [finF, gSeq, gSet, gDrop, gRet, gIte, gNx, gIf, gB, gAnd, gOr, gNot, toBl, toB, g1, g2, gv, gc, gAll, gsC, gsN, gIter, dIter, gI, gJ, gFor, gUnp, gAug, gtN, gtT, gtU, gtsC, gtsN, nlD, nlB, goN, goS, toI, gSl, gtt, bind_ok, bind_bad, bind_exc, pure_ok, oR_some, oR_none, noX_ok, noX_bad, Option.bind_some, List.getD_cons_zero, List.getD_cons_succ, List.getD_nil, List.set_cons_zero, List.set_cons_succ, List.length_cons, List.length_nil, Nat.reduceAdd, dAdd_i, dSub_i, dNeg_i, dLt_i, dLe_i, dGt_i, dGe_i, dAnd_i, dOr_i, dXor_i, dEq_i, dNe_p, dMax_ii, dMin_ii, dAugAdd_i, dAugSub_i, dAugBitXor_i, dIsi_ii, dIsi_bi, dIsi_tt, if_true, ite_true, ite_false, Bool.false_eq_true, if_false, Bool.not_true, Bool.not_false, reduceIte, dMod_s, dDiv_s, Int.reduceLT, Int.reduceLE, Int.reduceNeg, Int.reducePow, Nat.reducePow, Nat.reduceLT, Int.reduceToNat, decide_eq_true_eq, Bool.true_eq_false, dLst_0, dTup_0, dLst_1, dTup_1, dLst_2, dTup_2, dLst_3, dTup_3, dLst_4, dTup_4, dLst_5, dTup_5, dLst_6, dTup_6, dLst_7, dTup_7, dLst_8, dTup_8, dLst_9, dTup_9, decide_true, decide_false, dIsi2_t, dIsi2_l, dIsi2_i, dIsi2_n, dIsi2_s, dIsi_tl, dIsi_ti, dIsi_tn, dIsi_ts, dIsi_si, dIsi_sn, dIsi_ss, dIsi_in, dIsi_it, dIsi_il, dIsi_is, dIsi_ib, dIsi_bb, dMul_l, dMul_r, dShr_s, rng1N, e]; first | done | exact rfl) rfl)))))
  | n + 1, .tup ds, .tup hl h => by
    have hln : dLen [.tup ds] = .ok (.int ds.length) := rfl
    rw [F__law_alike_run, g__law_alike]
    refine Ok.eq (W.fn (W.iteST (by simp -implicitDefEqProofs (disch := omega) only [finF, gSeq, gSet, gDrop, gRet, gIte, gNx, gIf, gB, gAnd, gOr, gNot, toBl, toB, g1, g2, gv, gc, gAll, gsC, gsN, gIter, dIter, gI, gJ, gFor, gUnp, gAug, gtN, gtT, gtU, gtsC, gtsN, nlD, nlB, goN, goS, toI, gSl, gtt, bind_ok, bind_bad, bind_exc, pure_ok, oR_some, oR_none, noX_ok, noX_bad, Option.bind_some, List.getD_cons_zero, List.getD_cons_succ, List.getD_nil, List.set_cons_zero, List.set_cons_succ, List.length_cons, List.length_nil, Nat.reduceAdd, dAdd_i, dSub_i, dNeg_i, dLt_i, dLe_i, dGt_i, dGe_i, dAnd_i, dOr_i, dXor_i, dEq_i, dNe_p, dMax_ii, dMin_ii, dAugAdd_i, dAugSub_i, dAugBitXor_i, dIsi_ii, dIsi_bi, dIsi_tt, if_true, ite_true, ite_false, Bool.false_eq_true, if_false, Bool.not_true, Bool.not_false, reduceIte, dMod_s, dDiv_s, Int.reduceLT, Int.reduceLE, Int.reduceNeg, Int.reducePow, Nat.reducePow, Nat.reduceLT, Int.reduceToNat, decide_eq_true_eq, Bool.true_eq_false, dLst_0, dTup_0, dLst_1, dTup_1, dLst_2, dTup_2, dLst_3, dTup_3, dLst_4, dTup_4, dLst_5, dTup_5, dLst_6, dTup_6, dLst_7, dTup_7, dLst_8, dTup_8, dLst_9, dTup_9, decide_true, decide_false, dIsi2_t, dIsi2_l, dIsi2_i, dIsi2_n, dIsi2_s, dIsi_tl, dIsi_ti, dIsi_tn, dIsi_ts, dIsi_si, dIsi_sn, dIsi_ss, dIsi_in, dIsi_it, dIsi_il, dIsi_is, dIsi_ib, dIsi_bb, dMul_l, dMul_r, dShr_s, rng1N]; first | done | exact rfl) (W.assoc (W.iteSF (by simp -implicitDefEqProofs (disch := omega) only [finF, gSeq, gSet, gDrop, gRet, gIte, gNx, gIf, gB, gAnd, gOr, gNot, toBl, toB, g1, g2, gv, gc, gAll, gsC, gsN, gIter, dIter, gI, gJ, gFor, gUnp, gAug, gtN, gtT, gtU, gtsC, gtsN, nlD, nlB, goN, goS, toI, gSl, gtt, bind_ok, bind_bad, bind_exc, pure_ok, oR_some, oR_none, noX_ok, noX_bad, Option.bind_some, List.getD_cons_zero, List.getD_cons_succ, List.getD_nil, List.set_cons_zero, List.set_cons_succ, List.length_cons, List.length_nil, Nat.reduceAdd, dAdd_i, dSub_i, dNeg_i, dLt_i, dLe_i, dGt_i, dGe_i, dAnd_i, dOr_i, dXor_i, dEq_i, dNe_p, dMax_ii, dMin_ii, dAugAdd_i, dAugSub_i, dAugBitXor_i, dIsi_ii, dIsi_bi, dIsi_tt, if_true, ite_true, ite_false, Bool.false_eq_true, if_false, Bool.not_true, Bool.not_false, reduceIte, dMod_s, dDiv_s, Int.reduceLT, Int.reduceLE, Int.reduceNeg, Int.reducePow, Nat.reducePow, Nat.reduceLT, Int.reduceToNat, decide_eq_true_eq, Bool.true_eq_false, dLst_0, dTup_0, dLst_1, dTup_1, dLst_2, dTup_2, dLst_3, dTup_3, dLst_4, dTup_4, dLst_5, dTup_5, dLst_6, dTup_6, dLst_7, dTup_7, dLst_8, dTup_8, dLst_9, dTup_9, decide_true, decide_false, dIsi2_t, dIsi2_l, dIsi2_i, dIsi2_n, dIsi2_s, dIsi_tl, dIsi_ti, dIsi_tn, dIsi_ts, dIsi_si, dIsi_sn, dIsi_ss, dIsi_in, dIsi_it, dIsi_il, dIsi_is, dIsi_ib, dIsi_bb, dMul_l, dMul_r, dShr_s, rng1N, dNe_self (OkD.bl _), dNe]; first | done | exact rfl) ?_))))
    refine W.nxS (W.assoc (W.iteSF (by simp -implicitDefEqProofs (disch := omega) only [finF, gSeq, gSet, gDrop, gRet, gIte, gNx, gIf, gB, gAnd, gOr, gNot, toBl, toB, g1, g2, gv, gc, gAll, gsC, gsN, gIter, dIter, gI, gJ, gFor, gUnp, gAug, gtN, gtT, gtU, gtsC, gtsN, nlD, nlB, goN, goS, toI, gSl, gtt, bind_ok, bind_bad, bind_exc, pure_ok, oR_some, oR_none, noX_ok, noX_bad, Option.bind_some, List.getD_cons_zero, List.getD_cons_succ, List.getD_nil, List.set_cons_zero, List.set_cons_succ, List.length_cons, List.length_nil, Nat.reduceAdd, dAdd_i, dSub_i, dNeg_i, dLt_i, dLe_i, dGt_i, dGe_i, dAnd_i, dOr_i, dXor_i, dEq_i, dNe_p, dMax_ii, dMin_ii, dAugAdd_i, dAugSub_i, dAugBitXor_i, dIsi_ii, dIsi_bi, dIsi_tt, if_true, ite_true, ite_false, Bool.false_eq_true, if_false, Bool.not_true, Bool.not_false, reduceIte, dMod_s, dDiv_s, Int.reduceLT, Int.reduceLE, Int.reduceNeg, Int.reducePow, Nat.reducePow, Nat.reduceLT, Int.reduceToNat, decide_eq_true_eq, Bool.true_eq_false, dLst_0, dTup_0, dLst_1, dTup_1, dLst_2, dTup_2, dLst_3, dTup_3, dLst_4, dTup_4, dLst_5, dTup_5, dLst_6, dTup_6, dLst_7, dTup_7, dLst_8, dTup_8, dLst_9, dTup_9, decide_true, decide_false, dIsi2_t, dIsi2_l, dIsi2_i, dIsi2_n, dIsi2_s, dIsi_tl, dIsi_ti, dIsi_tn, dIsi_ts, dIsi_si, dIsi_sn, dIsi_ss, dIsi_in, dIsi_it, dIsi_il, dIsi_is, dIsi_ib, dIsi_bb, dMul_l, dMul_r, dShr_s, rng1N, hln, ne_eq, not_true_eq_false]; first | done | exact rfl) (W.nxS (W.rtS ?_ rfl))))
    refine (gAll1 (gLc_rng (lo := 0) (c := 1) (n := ds.length) (h := fun _ => .bl true) (by simp -implicitDefEqProofs (disch := omega) only [finF, gSeq, gSet, gDrop, gRet, gIte, gNx, gIf, gB, gAnd, gOr, gNot, toBl, toB, g1, g2, gv, gc, gAll, gsC, gsN, gIter, dIter, gI, gJ, gFor, gUnp, gAug, gtN, gtT, gtU, gtsC, gtsN, nlD, nlB, goN, goS, toI, gSl, gtt, bind_ok, bind_bad, bind_exc, pure_ok, oR_some, oR_none, noX_ok, noX_bad, Option.bind_some, List.getD_cons_zero, List.getD_cons_succ, List.getD_nil, List.set_cons_zero, List.set_cons_succ, List.length_cons, List.length_nil, Nat.reduceAdd, dAdd_i, dSub_i, dNeg_i, dLt_i, dLe_i, dGt_i, dGe_i, dAnd_i, dOr_i, dXor_i, dEq_i, dNe_p, dMax_ii, dMin_ii, dAugAdd_i, dAugSub_i, dAugBitXor_i, dIsi_ii, dIsi_bi, dIsi_tt, if_true, ite_true, ite_false, Bool.false_eq_true, if_false, Bool.not_true, Bool.not_false, reduceIte, dMod_s, dDiv_s, Int.reduceLT, Int.reduceLE, Int.reduceNeg, Int.reducePow, Nat.reducePow, Nat.reduceLT, Int.reduceToNat, decide_eq_true_eq, Bool.true_eq_false, dLst_0, dTup_0, dLst_1, dTup_1, dLst_2, dTup_2, dLst_3, dTup_3, dLst_4, dTup_4, dLst_5, dTup_5, dLst_6, dTup_6, dLst_7, dTup_7, dLst_8, dTup_8, dLst_9, dTup_9, decide_true, decide_false, dIsi2_t, dIsi2_l, dIsi2_i, dIsi2_n, dIsi2_s, dIsi_tl, dIsi_ti, dIsi_tn, dIsi_ts, dIsi_si, dIsi_sn, dIsi_ss, dIsi_in, dIsi_it, dIsi_il, dIsi_is, dIsi_ib, dIsi_bb, dMul_l, dMul_r, dShr_s, rng1N, hln]; first | done | exact rfl) fun i hi => ⟨[.tup ds, .tup ds, .int i], by rw [show (0 + (i : Int) * 1) = i by omega]; rfl, ?_⟩)).trans (all_blT _)
    have hd : ds[i]? = some ds[i] := List.getElem?_eq_getElem hi
    have e1 := ixT_get hd
    have e2 := alike_eq n ds[i] (h _ (List.getElem_mem hi))
    simp -implicitDefEqProofs only [finF, gSeq, gSet, gDrop, gRet, gIte, gNx, gIf, gB, gAnd, gOr, gNot, toBl, toB, g1, g2, gv, gc, gAll, gsC, gsN, gIter, dIter, gI, gJ, gFor, gUnp, gAug, gtN, gtT, gtU, gtsC, gtsN, nlD, nlB, goN, goS, toI, gSl, gtt, bind_ok, bind_bad, bind_exc, pure_ok, oR_some, oR_none, noX_ok, noX_bad, Option.bind_some, List.getD_cons_zero, List.getD_cons_succ, List.getD_nil, List.set_cons_zero, List.set_cons_succ, List.length_cons, List.length_nil, Nat.reduceAdd, dAdd_i, dSub_i, dNeg_i, dLt_i, dLe_i, dGt_i, dGe_i, dAnd_i, dOr_i, dXor_i, dEq_i, dNe_p, dMax_ii, dMin_ii, dAugAdd_i, dAugSub_i, dAugBitXor_i, dIsi_ii, dIsi_bi, dIsi_tt, if_true, ite_true, ite_false, Bool.false_eq_true, if_false, Bool.not_true, Bool.not_false, reduceIte, dMod_s, dDiv_s, Int.reduceLT, Int.reduceLE, Int.reduceNeg, Int.reducePow, Nat.reducePow, Nat.reduceLT, Int.reduceToNat, decide_eq_true_eq, Bool.true_eq_false, dLst_0, dTup_0, dLst_1, dTup_1, dLst_2, dTup_2, dLst_3, dTup_3, dLst_4, dTup_4, dLst_5, dTup_5, dLst_6, dTup_6, dLst_7, dTup_7, dLst_8, dTup_8, dLst_9, dTup_9, decide_true, decide_false, dIsi2_t, dIsi2_l, dIsi2_i, dIsi2_n, dIsi2_s, dIsi_tl, dIsi_ti, dIsi_tn, dIsi_ts, dIsi_si, dIsi_sn, dIsi_ss, dIsi_in, dIsi_it, dIsi_il, dIsi_is, dIsi_ib, dIsi_bb, e1, e2]
  | n + 1, .lst ds, .lst hl h => by
    have hln : dLen [.lst ds] = .ok (.int ds.length) := rfl
    rw [F__law_alike_run, g__law_alike]
    refine Ok.eq (W.fn (W.iteST (by simp -implicitDefEqProofs (disch := omega) only [finF, gSeq, gSet, gDrop, gRet, gIte, gNx, gIf, gB, gAnd, gOr, gNot, toBl, toB, g1, g2, gv, gc, gAll, gsC, gsN, gIter, dIter, gI, gJ, gFor, gUnp, gAug, gtN, gtT, gtU, gtsC, gtsN, nlD, nlB, goN, goS, toI, gSl, gtt, bind_ok, bind_bad, bind_exc, pure_ok, oR_some, oR_none, noX_ok, noX_bad, Option.bind_some, List.getD_cons_zero, List.getD_cons_succ, List.getD_nil, List.set_cons_zero, List.set_cons_succ, List.length_cons, List.length_nil, Nat.reduceAdd, dAdd_i, dSub_i, dNeg_i, dLt_i, dLe_i, dGt_i, dGe_i, dAnd_i, dOr_i, dXor_i, dEq_i, dNe_p, dMax_ii, dMin_ii, dAugAdd_i, dAugSub_i, dAugBitXor_i, dIsi_ii, dIsi_bi, dIsi_tt, if_true, ite_true, ite_false, Bool.false_eq_true, if_false, Bool.not_true, Bool.not_false, reduceIte, dMod_s, dDiv_s, Int.reduceLT, Int.reduceLE, Int.reduceNeg, Int.reducePow, Nat.reducePow, Nat.reduceLT, Int.reduceToNat, decide_eq_true_eq, Bool.true_eq_false, dLst_0, dTup_0, dLst_1, dTup_1, dLst_2, dTup_2, dLst_3, dTup_3, dLst_4, dTup_4, dLst_5, dTup_5, dLst_6, dTup_6, dLst_7, dTup_7, dLst_8, dTup_8, dLst_9, dTup_9, decide_true, decide_false, dIsi2_t, dIsi2_l, dIsi2_i, dIsi2_n, dIsi2_s, dIsi_tl, dIsi_ti, dIsi_tn, dIsi_ts, dIsi_si, dIsi_sn, dIsi_ss, dIsi_in, dIsi_it, dIsi_il, dIsi_is, dIsi_ib, dIsi_bb, dMul_l, dMul_r, dShr_s, rng1N]; first | done | exact rfl) (W.assoc (W.iteSF (by simp -implicitDefEqProofs (disch := omega) only [finF, gSeq, gSet, gDrop, gRet, gIte, gNx, gIf, gB, gAnd, gOr, gNot, toBl, toB, g1, g2, gv, gc, gAll, gsC, gsN, gIter, dIter, gI, gJ, gFor, gUnp, gAug, gtN, gtT, gtU, gtsC, gtsN, nlD, nlB, goN, goS, toI, gSl, gtt, bind_ok, bind_bad, bind_exc, pure_ok, oR_some, oR_none, noX_ok, noX_bad, Option.bind_some, List.getD_cons_zero, List.getD_cons_succ, List.getD_nil, List.set_cons_zero, List.set_cons_succ, List.length_cons, List.length_nil, Nat.reduceAdd, dAdd_i, dSub_i, dNeg_i, dLt_i, dLe_i, dGt_i, dGe_i, dAnd_i, dOr_i, dXor_i, dEq_i, dNe_p, dMax_ii, dMin_ii, dAugAdd_i, dAugSub_i, dAugBitXor_i, dIsi_ii, dIsi_bi, dIsi_tt, if_true, ite_true, ite_false, Bool.false_eq_true, if_false, Bool.not_true, Bool.not_false, reduceIte, dMod_s, dDiv_s, Int.reduceLT, Int.reduceLE, Int.reduceNeg, Int.reducePow, Nat.reducePow, Nat.reduceLT, Int.reduceToNat, decide_eq_true_eq, Bool.true_eq_false, dLst_0, dTup_0, dLst_1, dTup_1, dLst_2, dTup_2, dLst_3, dTup_3, dLst_4, dTup_4, dLst_5, dTup_5, dLst_6, dTup_6, dLst_7, dTup_7, dLst_8, dTup_8, dLst_9, dTup_9, decide_true, decide_false, dIsi2_t, dIsi2_l, dIsi2_i, dIsi2_n, dIsi2_s, dIsi_tl, dIsi_ti, dIsi_tn, dIsi_ts, dIsi_si, dIsi_sn, dIsi_ss, dIsi_in, dIsi_it, dIsi_il, dIsi_is, dIsi_ib, dIsi_bb, dMul_l, dMul_r, dShr_s, rng1N, dNe_self (OkD.bl _), dNe]; first | done | exact rfl) ?_))))
    refine W.nxS (W.assoc (W.iteSF (by simp -implicitDefEqProofs (disch := omega) only [finF, gSeq, gSet, gDrop, gRet, gIte, gNx, gIf, gB, gAnd, gOr, gNot, toBl, toB, g1, g2, gv, gc, gAll, gsC, gsN, gIter, dIter, gI, gJ, gFor, gUnp, gAug, gtN, gtT, gtU, gtsC, gtsN, nlD, nlB, goN, goS, toI, gSl, gtt, bind_ok, bind_bad, bind_exc, pure_ok, oR_some, oR_none, noX_ok, noX_bad, Option.bind_some, List.getD_cons_zero, List.getD_cons_succ, List.getD_nil, List.set_cons_zero, List.set_cons_succ, List.length_cons, List.length_nil, Nat.reduceAdd, dAdd_i, dSub_i, dNeg_i, dLt_i, dLe_i, dGt_i, dGe_i, dAnd_i, dOr_i, dXor_i, dEq_i, dNe_p, dMax_ii, dMin_ii, dAugAdd_i, dAugSub_i, dAugBitXor_i, dIsi_ii, dIsi_bi, dIsi_tt, if_true, ite_true, ite_false, Bool.false_eq_true, if_false, Bool.not_true, Bool.not_false, reduceIte, dMod_s, dDiv_s, Int.reduceLT, Int.reduceLE, Int.reduceNeg, Int.reducePow, Nat.reducePow, Nat.reduceLT, Int.reduceToNat, decide_eq_true_eq, Bool.true_eq_false, dLst_0, dTup_0, dLst_1, dTup_1, dLst_2, dTup_2, dLst_3, dTup_3, dLst_4, dTup_4, dLst_5, dTup_5, dLst_6, dTup_6, dLst_7, dTup_7, dLst_8, dTup_8, dLst_9, dTup_9, decide_true, decide_false, dIsi2_t, dIsi2_l, dIsi2_i, dIsi2_n, dIsi2_s, dIsi_tl, dIsi_ti, dIsi_tn, dIsi_ts, dIsi_si, dIsi_sn, dIsi_ss, dIsi_in, dIsi_it, dIsi_il, dIsi_is, dIsi_ib, dIsi_bb, dMul_l, dMul_r, dShr_s, rng1N, hln, ne_eq, not_true_eq_false]; first | done | exact rfl) (W.nxS (W.rtS ?_ rfl))))
    refine (gAll1 (gLc_rng (lo := 0) (c := 1) (n := ds.length) (h := fun _ => .bl true) (by simp -implicitDefEqProofs (disch := omega) only [finF, gSeq, gSet, gDrop, gRet, gIte, gNx, gIf, gB, gAnd, gOr, gNot, toBl, toB, g1, g2, gv, gc, gAll, gsC, gsN, gIter, dIter, gI, gJ, gFor, gUnp, gAug, gtN, gtT, gtU, gtsC, gtsN, nlD, nlB, goN, goS, toI, gSl, gtt, bind_ok, bind_bad, bind_exc, pure_ok, oR_some, oR_none, noX_ok, noX_bad, Option.bind_some, List.getD_cons_zero, List.getD_cons_succ, List.getD_nil, List.set_cons_zero, List.set_cons_succ, List.length_cons, List.length_nil, Nat.reduceAdd, dAdd_i, dSub_i, dNeg_i, dLt_i, dLe_i, dGt_i, dGe_i, dAnd_i, dOr_i, dXor_i, dEq_i, dNe_p, dMax_ii, dMin_ii, dAugAdd_i, dAugSub_i, dAugBitXor_i, dIsi_ii, dIsi_bi, dIsi_tt, if_true, ite_true, ite_false, Bool.false_eq_true, if_false, Bool.not_true, Bool.not_false, reduceIte, dMod_s, dDiv_s, Int.reduceLT, Int.reduceLE, Int.reduceNeg, Int.reducePow, Nat.reducePow, Nat.reduceLT, Int.reduceToNat, decide_eq_true_eq, Bool.true_eq_false, dLst_0, dTup_0, dLst_1, dTup_1, dLst_2, dTup_2, dLst_3, dTup_3, dLst_4, dTup_4, dLst_5, dTup_5, dLst_6, dTup_6, dLst_7, dTup_7, dLst_8, dTup_8, dLst_9, dTup_9, decide_true, decide_false, dIsi2_t, dIsi2_l, dIsi2_i, dIsi2_n, dIsi2_s, dIsi_tl, dIsi_ti, dIsi_tn, dIsi_ts, dIsi_si, dIsi_sn, dIsi_ss, dIsi_in, dIsi_it, dIsi_il, dIsi_is, dIsi_ib, dIsi_bb, dMul_l, dMul_r, dShr_s, rng1N, hln]; first | done | exact rfl) fun i hi => ⟨[.lst ds, .lst ds, .int i], by rw [show (0 + (i : Int) * 1) = i by omega]; rfl, ?_⟩)).trans (all_blT _)
    have hd : ds[i]? = some ds[i] := List.getElem?_eq_getElem hi
    have e1 := ixL_get hd
    have e2 := alike_eq n ds[i] (h _ (List.getElem_mem hi))
    simp -implicitDefEqProofs only [finF, gSeq, gSet, gDrop, gRet, gIte, gNx, gIf, gB, gAnd, gOr, gNot, toBl, toB, g1, g2, gv, gc, gAll, gsC, gsN, gIter, dIter, gI, gJ, gFor, gUnp, gAug, gtN, gtT, gtU, gtsC, gtsN, nlD, nlB, goN, goS, toI, gSl, gtt, bind_ok, bind_bad, bind_exc, pure_ok, oR_some, oR_none, noX_ok, noX_bad, Option.bind_some, List.getD_cons_zero, List.getD_cons_succ, List.getD_nil, List.set_cons_zero, List.set_cons_succ, List.length_cons, List.length_nil, Nat.reduceAdd, dAdd_i, dSub_i, dNeg_i, dLt_i, dLe_i, dGt_i, dGe_i, dAnd_i, dOr_i, dXor_i, dEq_i, dNe_p, dMax_ii, dMin_ii, dAugAdd_i, dAugSub_i, dAugBitXor_i, dIsi_ii, dIsi_bi, dIsi_tt, if_true, ite_true, ite_false, Bool.false_eq_true, if_false, Bool.not_true, Bool.not_false, reduceIte, dMod_s, dDiv_s, Int.reduceLT, Int.reduceLE, Int.reduceNeg, Int.reducePow, Nat.reducePow, Nat.reduceLT, Int.reduceToNat, decide_eq_true_eq, Bool.true_eq_false, dLst_0, dTup_0, dLst_1, dTup_1, dLst_2, dTup_2, dLst_3, dTup_3, dLst_4, dTup_4, dLst_5, dTup_5, dLst_6, dTup_6, dLst_7, dTup_7, dLst_8, dTup_8, dLst_9, dTup_9, decide_true, decide_false, dIsi2_t, dIsi2_l, dIsi2_i, dIsi2_n, dIsi2_s, dIsi_tl, dIsi_ti, dIsi_tn, dIsi_ts, dIsi_si, dIsi_sn, dIsi_ss, dIsi_in, dIsi_it, dIsi_il, dIsi_is, dIsi_ib, dIsi_bb, e1, e2]
/-! k63: bytes in hex -/
def F16 : List Nat := [48, 49, 50, 51, 52, 53, 54, 55, 56, 57, 97, 98, 99, 100, 101, 102]
theorem F16_eq : Str.ofString "0123456789abcdef" = cS F16 := figs_eq
def hx (b : Nat) : List Nat := [F16.getD (b / 16) 0, F16.getD (b % 16) 0]
/-- a text that tells some bytes, wherever it stands between bytes -/
def Gd (t bs : List Nat) : Prop := ∀ rest acc, hexP (t ++ rest) acc none = hexP rest (acc ++ bs) none
theorem Gd.nil : Gd [] [] := fun rest acc => by rw [List.append_nil]; rfl
theorem Gd.app {t u bs cs : List Nat} (h : Gd t bs) (k : Gd u cs) : Gd (t ++ u) (bs ++ cs) := fun rest acc => by
  rw [List.append_assoc, h, k, List.append_assoc]
theorem Gd.blk {c : Nat} (h : blk c = true) : Gd [c] [] := fun rest acc => by
  rw [List.append_nil]
  exact hexP_blk h
theorem Gd.two {c d u v : Nat} (h0 : ¬ LW.blk c = true) (h1 : fgN c = some u) (h2 : fgN d = some v) : Gd [c, d] [u * 16 + v] := fun rest acc => by
  show hexP (c :: d :: rest) acc none = _
  rw [hexP_one h0, h1]
  show hexP (d :: rest) acc (some u) = _
  rw [hexP_two, h2]
theorem Gd.done {t bs : List Nat} (h : Gd t bs) : hexP t [] none = some bs := by
  have q := h [] []
  rw [List.append_nil] at q
  rw [q]
  rfl
/-- .. in great letters too -/
structure Gb (t bs : List Nat) : Prop where
  a : Gd t bs
  b : Gd (t.map PyProof.Rows.up1) bs
  l : low t
  u : low (t.map PyProof.Rows.up1)
theorem Gb.nil : Gb [] [] := ⟨Gd.nil, Gd.nil, (fun _ h => nomatch h), fun _ h => nomatch h⟩
theorem Gb.app {t u bs cs : List Nat} (h : Gb t bs) (k : Gb u cs) : Gb (t ++ u) (bs ++ cs) := ⟨h.a.app k.a, by rw [List.map_append]; exact h.b.app k.b, low_app h.l k.l, by rw [List.map_append]; exact low_app h.u k.u⟩
theorem Gb.flat {ts : List (List Nat)} {bss : List (List Nat)} (hl : ts.length = bss.length) (h : ∀ i (hi : i < ts.length) (hj : i < bss.length), Gb ts[i] bss[i]) : Gb ts.flatten bss.flatten := by
  induction ts generalizing bss with
  | nil =>
    cases bss with
    | nil => exact Gb.nil
    | cons b bs => cases hl
  | cons t ts ih =>
    cases bss with
    | nil => cases hl
    | cons b bs =>
      rw [List.flatten_cons, List.flatten_cons]
      exact (h 0 (Nat.zero_lt_succ _) (Nat.zero_lt_succ _)).app (ih (by simpa using hl) fun i hi hj => h (i + 1) (Nat.succ_lt_succ hi) (Nat.succ_lt_succ hj))
theorem blk_up {c : Nat} (h : blk c = true) : PyProof.Rows.up1 c = c ∧ c < 128 := by
  unfold blk at h
  rw [Bool.or_eq_true, beq_iff_eq, beq_iff_eq] at h
  rcases h with h | h <;> subst h <;> exact ⟨by decide +kernel, by decide⟩
theorem Gb.bl : ∀ {t : List Nat}, (∀ c ∈ t, blk c = true) → Gb t []
  | [], _ => Gb.nil
  | c :: t, h => by
    obtain ⟨e, l⟩ := blk_up (h c List.mem_cons_self)
    have one : Gb [c] [] := ⟨Gd.blk (h c List.mem_cons_self), by rw [List.map_cons, e]; exact Gd.blk (h c List.mem_cons_self), (fun x hx => by rw [List.mem_singleton.mp hx]; exact l), by
      rw [List.map_cons, e]
      exact fun x hx => by rw [List.mem_singleton.mp hx]; exact l⟩
    exact one.app (Gb.bl fun x hx => h x (List.mem_cons_of_mem _ hx))
theorem figT : ∀ v < 16, fgN (F16.getD v 0) = some v ∧ fgN (PyProof.Rows.up1 (F16.getD v 0)) = some v ∧ blk (F16.getD v 0) = false ∧ blk (PyProof.Rows.up1 (F16.getD v 0)) = false ∧ F16.getD v 0 < 128 ∧ PyProof.Rows.up1 (F16.getD v 0) < 128 ∧ (F16.getD v 0 != 10) = true := by decide +kernel
theorem Gb.hx {b : Nat} (h : b < 256) : Gb (LW.hx b) [b] := by
  obtain ⟨a1, a2, a3, a4, a5, a6, _⟩ := figT (b / 16) (by omega)
  obtain ⟨b1, b2, b3, b4, b5, b6, _⟩ := figT (b % 16) (by omega)
  have e : b / 16 * 16 + b % 16 = b := by omega
  have g1 := Gd.two (by rw [a3]; exact Bool.false_ne_true) a1 b1
  have g2 := Gd.two (by rw [a4]; exact Bool.false_ne_true) a2 b2
  rw [e] at g1 g2
  refine ⟨g1, g2, fun x hx => ?_, fun x hx => ?_⟩
  · have hx : x ∈ [F16.getD (b / 16) 0, F16.getD (b % 16) 0] := hx
    simp only [List.mem_cons, List.not_mem_nil, or_false] at hx
    rcases hx with q | q <;> rw [q] <;> assumption
  · have hx : x ∈ [PyProof.Rows.up1 (F16.getD (b / 16) 0), PyProof.Rows.up1 (F16.getD (b % 16) 0)] := hx
    simp only [List.mem_cons, List.not_mem_nil, or_false] at hx
    rcases hx with q | q <;> rw [q] <;> assumption
theorem hx_ten {b : Nat} (h : b < 256) : (hx b).filter (· != 10) = hx b := by
  obtain ⟨_, _, _, _, _, _, a⟩ := figT (b / 16) (by omega)
  obtain ⟨_, _, _, _, _, _, c⟩ := figT (b % 16) (by omega)
  unfold hx
  rw [List.filter_cons, if_pos a, List.filter_cons, if_pos c]
  rfl
/-- the rows' text: byte by byte -/
def hE (xs : List Nat) (p : Nat) : List Nat := hx (xs.getD p 0) ++ if p % 32 = 31 ∨ p = xs.length - 1 then [10] else []
def hP (xs : List Nat) (p : Nat) : List Nat := ((List.range p).map (hE xs)).flatten
theorem hP_succ (xs : List Nat) (p : Nat) : hP xs (p + 1) = hP xs p ++ hE xs p := by
  unfold hP
  rw [List.range_succ, List.map_append, List.flatten_append]
  show _ ++ (hE xs p ++ []) = _
  rw [List.append_nil]
theorem hP_len (xs : List Nat) (p : Nat) : (hP xs p).length ≤ 3 * p := by
  induction p with
  | zero => exact Nat.le_refl _
  | succ p ih =>
    rw [hP_succ, List.length_append]
    have : (hE xs p).length ≤ 3 := by
      unfold hE
      rw [List.length_append]
      show 2 + _ ≤ 3
      split <;> simp
    omega
theorem low_ten : low [10] := fun c hc => by rw [List.mem_singleton.mp hc]; decide
theorem hP_gb {xs : List Nat} (h : ∀ x ∈ xs, x < 256) : ∀ p, p ≤ xs.length → Gb (hP xs p) (xs.take p)
  | 0, _ => by rw [List.take_zero]; exact Gb.nil
  | p + 1, hp => by
    have ih := hP_gb h p (by omega)
    have e : xs.take (p + 1) = xs.take p ++ [xs.getD p 0] := by
      rw [List.take_add_one, List.getD_eq_getElem?_getD, List.getElem?_eq_getElem (by omega)]
      rfl
    have hm : xs.getD p 0 < 256 := h _ (by rw [List.getD_eq_getElem?_getD, List.getElem?_eq_getElem (by omega)]; exact List.getElem_mem (by omega))
    have q : Gb (hE xs p) ([xs.getD p 0] ++ []) := (Gb.hx hm).app (Gb.bl fun c hc => by
      split at hc
      · rw [List.mem_singleton.mp hc]; rfl
      · cases hc)
    rw [List.append_nil] at q
    rw [hP_succ, e]
    exact ih.app q
theorem hP_strike {xs : List Nat} (h : ∀ x ∈ xs, x < 256) : ∀ p, p ≤ xs.length → (hP xs p).filter (· != 10) = ((xs.take p).map hx).flatten
  | 0, _ => rfl
  | p + 1, hp => by
    have ih := hP_strike h p (by omega)
    have e : xs.take (p + 1) = xs.take p ++ [xs.getD p 0] := by
      rw [List.take_add_one, List.getD_eq_getElem?_getD, List.getElem?_eq_getElem (by omega)]
      rfl
    have hm : xs.getD p 0 < 256 := h _ (by rw [List.getD_eq_getElem?_getD, List.getElem?_eq_getElem (by omega)]; exact List.getElem_mem (by omega))
    rw [hP_succ, e, List.filter_append, ih, List.map_append, List.flatten_append]
    congr 1
    unfold hE
    rw [List.filter_append, hx_ten hm]
    show _ = hx (xs.getD p 0) ++ []
    congr 1
    split <;> rfl
/-- a row's text, and what it stands for -/
theorem hP_add (xs : List Nat) (a : Nat) : ∀ m, hP xs (a + m) = hP xs a ++ ((List.range m).map fun i => hE xs (a + i)).flatten
  | 0 => (List.append_nil _).symm
  | m + 1 => by
    rw [show a + (m + 1) = (a + m) + 1 by omega, hP_succ, hP_add xs a m, List.range_succ, List.map_append, List.flatten_append, List.append_assoc]
    show _ = hP xs a ++ (_ ++ (hE xs (a + m) ++ []))
    rw [List.append_nil]
theorem row_of (xs : List Nat) (j m : Nat) (hm : 1 ≤ m) (h32 : m ≤ 32) (hl : 32 * j + m ≤ xs.length) (he : m = 32 ∨ 32 * j + m = xs.length) :
    ((List.range m).map fun i => hE xs (32 * j + i)).flatten = (((xs.drop (32 * j)).take m).map hx).flatten ++ [10] := by
  obtain ⟨k, rfl⟩ : ∃ k, m = k + 1 := ⟨m - 1, by omega⟩
  have tk : (xs.drop (32 * j)).take (k + 1) = (xs.drop (32 * j)).take k ++ [xs.getD (32 * j + k) 0] := by
    rw [List.take_add_one, List.getElem?_drop, List.getD_eq_getElem?_getD, List.getElem?_eq_getElem (by omega)]
    rfl
  have pre : ∀ n, n ≤ k → ((List.range n).map fun i => hE xs (32 * j + i)).flatten = (((xs.drop (32 * j)).take n).map hx).flatten := by
    intro n
    induction n with
    | zero => intro _; rfl
    | succ n ih =>
      intro hn
      have tk : (xs.drop (32 * j)).take (n + 1) = (xs.drop (32 * j)).take n ++ [xs.getD (32 * j + n) 0] := by
        rw [List.take_add_one, List.getElem?_drop, List.getD_eq_getElem?_getD, List.getElem?_eq_getElem (by omega)]
        rfl
      rw [List.range_succ, List.map_append, List.flatten_append, ih (by omega), tk, List.map_append, List.flatten_append]
      congr 1
      show hE xs (32 * j + n) ++ [] = hx _ ++ []
      unfold hE
      rw [if_neg (by omega), List.append_nil]
  rw [List.range_succ, List.map_append, List.flatten_append, pre k (Nat.le_refl _), tk, List.map_append, List.flatten_append, List.append_assoc]
  congr 1
  show hE xs (32 * j + k) ++ [] = (hx _ ++ []) ++ [10]
  unfold hE
  rw [if_pos (by omega), List.append_nil, List.append_nil]
/-- .. where a pair stands -/
theorem pair_at : ∀ (xs : List Nat) (i : Nat), i < xs.length → (((xs.map hx).flatten).drop (2 * i)).take 2 = hx (xs.getD i 0)
  | [], i, h => absurd h (Nat.not_lt_zero _)
  | x :: xs, 0, _ => rfl
  | x :: xs, i + 1, h => by
    rw [show 2 * (i + 1) = 2 + 2 * i by omega, List.map_cons, List.flatten_cons, ← List.drop_drop, show (hx x ++ (xs.map hx).flatten).drop 2 = (xs.map hx).flatten from rfl]
    rw [pair_at xs i (by simpa using h)]
    rfl
theorem pairs_len : ∀ xs : List Nat, ((xs.map hx).flatten).length = 2 * xs.length
  | [] => rfl
  | x :: xs => by
    rw [List.map_cons, List.flatten_cons, List.length_append, pairs_len xs, List.length_cons]
    show 2 + _ = _
    omega
/-! what the program and the law compute -/
theorem fig_ix {v : Nat} (h : v < 16) : dIx (tS F16) (.int (v : Nat)) = .ok (tS [F16.getD v 0]) := tIx h (by decide)
theorem hx_add {b : Nat} : dAdd (tS [F16.getD (b / 16) 0]) (tS [F16.getD (b % 16) 0]) = .ok (tS (hx b)) := tAdd (by show 1 + 1 ≤ _; omega)
theorem div16 (b : Nat) : dDiv (.int (b : Nat)) (.int 16) = .ok (.int ((b / 16 : Nat) : Int)) := (dDiv_s (by decide) (by decide)).trans (by rw [show ((b : Int) / 16) = ((b / 16 : Nat) : Int) by omega])
theorem mod16 (b : Nat) : dMod (.int (b : Nat)) (.int 16) = .ok (.int ((b % 16 : Nat) : Int)) := (dMod_s (by decide)).trans (by rw [show ((b : Int) % 16) = ((b % 16 : Nat) : Int) by omega])
theorem e_nl : Str.ofString "\n" = cS [10] := by decide +kernel
theorem e_no : Str.ofString "" = cS [] := by decide +kernel
theorem joinL_nil : ∀ ws : List (List Nat), TL.joinL [] ws = ws.flatten
  | [] => rfl
  | [w] => (List.append_nil w).symm
  | w :: x :: r => by
    show w ++ ([] ++ TL.joinL [] (x :: r)) = _
    rw [List.nil_append, joinL_nil (x :: r)]
    rfl
theorem rng_up {n q : Nat} (h : q = (n + 31) / 32) : (if (0 : Int) < (n : Int) then (((n : Int) - 0 - 1) / 32 + 1).toNat else 0) = q := by subst h; split <;> omega
theorem hexed_eq (sq : List D → D) (hsq : sq = D.lst ∨ sq = D.tup) {xs : List Nat} (hb : ∀ x ∈ xs, x < 256) (hl : xs.length ≤ 1000) : f_hexed [sq (xs.map dN)] = .ok (tS (hP xs xs.length)) := by
  have len : dLen [sq (xs.map dN)] = .ok (.int xs.length) := by
    rcases hsq with q | q <;> rw [q] <;> show R.ok (D.int _) = _ <;> rw [List.length_map]
  have sl : ∀ a b, dSl false (sq (xs.map dN)) a b = .ok (sq ((cutD xs a b).map dN)) := fun a b => by
    rcases hsq with q | q
    · rw [q, dSl_l, cutD_map]
    · rw [q, dSl_t, cutD_map]
  have it : ∀ ys : List Nat, dIter (sq (ys.map dN)) = .ok (ys.map dN) := fun ys => by rcases hsq with q | q <;> rw [q] <;> rfl
  obtain ⟨n, en⟩ : ∃ n, n = xs.length := ⟨_, rfl⟩
  have rg := dRng3_s (i := 0) (j := (n : Nat)) (c := 32) (by omega) (by omega) (by omega) (by omega) (by omega) (by omega)
  rw [rng_up rfl] at rg
  rw [← en] at len ⊢
  generalize hS : sq (xs.map dN) = S at *
  rw [f_hexed_run, g_hexed, F16_eq, e_nl, e_no]
  refine run_of ?_
  refine W.step (ρ' := [S, .lst [], .non, .non, .non]) rfl ?_
  refine W.forR (lo := 0) (cc := 32) (n := (n + 31) / 32) (fun j ρ => ∃ ws : List (List Nat), (ws.flatten = hP xs (min (32 * j) n) ∧ ws.length ≤ j ∧ ∀ w ∈ ws, w.length ≤ 100) ∧ ∃ (j2 : D) (j3 : D) (j4 : D), ρ = [S, .lst (ws.map tS), j2, j3, j4]) (by
    show (gsC (gc (.int 0)) (gsC (gAll dLen (gsC (gv 0) gsN)) (gsC (gc (.int 32)) gsN)) _ >>= dRng3) = _
    rw [gs3 (x := .int 0) (z := .int 32) rfl ((gAll1 (d := S) rfl).trans len) rfl, bind_ok]
    exact rg) ⟨[], ⟨rfl, Nat.le_refl _, fun _ h => nomatch h⟩, _, _, _, rfl⟩ ?_ ?_
  · rintro j hj ρ ⟨ws, ⟨inv, wl, w100⟩, j2, j3, j4, rfl⟩
    rw [show (0 + (j : Int) * 32) = ((32 * j : Nat) : Int) by omega]
    refine ⟨[S, .lst (ws.map tS), .int ((32 * j : Nat) : Int), j3, j4], rfl, ?_⟩
    obtain ⟨m, em⟩ : ∃ m, m = min 32 (n - 32 * j) := ⟨_, rfl⟩
    have m1 : 1 ≤ m := by omega
    have cut := cutD_at xs (i := ((32 * j : Nat) : Int)) (j := ((32 * j : Nat) : Int) + 32) (by omega) (by omega)
    rw [show (((32 * j : Nat) : Int) + 32).toNat - (((32 * j : Nat) : Int)).toNat = 32 by omega, Int.toNat_natCast] at cut
    have s1 := sl (some ((32 * j : Nat) : Int)) (some (((32 * j : Nat) : Int) + 32))
    rw [cut] at s1
    have tm : (xs.drop (32 * j)).take 32 = (xs.drop (32 * j)).take m := by
      rw [em, en, ← List.length_drop]
      by_cases q : 32 ≤ (xs.drop (32 * j)).length
      · rw [Nat.min_eq_left q]
      · rw [Nat.min_eq_right (by omega), List.take_length, List.take_of_length_le (by omega)]
    rw [tm] at s1
    have row := row_of xs j m m1 (by omega) (by omega) (by omega)
    have add := hP_add xs (32 * j) m
    have ml : ((xs.drop (32 * j)).take m).length ≤ 32 := by rw [List.length_take]; omega
    have mb : ∀ x ∈ (xs.drop (32 * j)).take m, x < 256 := fun x hx => hb x (List.mem_of_mem_drop (List.mem_of_mem_take hx))
    generalize (xs.drop (32 * j)).take m = ys at *
    have iy := it ys
    generalize sq (ys.map dN) = Y at *
    have lc : gLc (gIter (gSl false (gv 0) (goS (gv 2)) (goS (g2 dAdd (gv 2) (gc (.int 32)))))) (gtN 4) gtt (g2 dAdd (g2 dIx (gc (.str (cS F16))) (g2 dDiv (gv 4) (gc (.int 16)))) (g2 dIx (gc (.str (cS F16))) (g2 dMod (gv 4) (gc (.int 16))))) [S, .lst (ws.map tS), .int ((32 * j : Nat) : Int), j3, j4] = .ok (.lst (ys.map fun b => tS (hx b))) := by
      refine gLc_map (ed := dN) (xs := ys) (h := fun b => tS (hx b)) (by
        show (gSl false (gv 0) (goS (gv 2)) (goS (g2 dAdd (gv 2) (gc (.int 32)))) _ >>= dIter) = _
        have e : gSl false (gv 0) (goS (gv 2)) (goS (g2 dAdd (gv 2) (gc (.int 32)))) [S, .lst (ws.map tS), .int ((32 * j : Nat) : Int), j3, j4] = .ok Y := s1
        rw [e]
        exact iy) fun b hbm => ⟨[S, .lst (ws.map tS), .int ((32 * j : Nat) : Int), j3, dN b], rfl, ?_⟩
      have b256 := mb b hbm
      exact (g2L (x := tS [F16.getD (b / 16) 0]) (y := tS [F16.getD (b % 16) 0]) ((g2L rfl ((g2L rfl rfl).trans (div16 b))).trans (fig_ix (by omega))) ((g2L rfl ((g2L rfl rfl).trans (mod16 b))).trans (fig_ix (by omega)))).trans hx_add
    refine W.step (ρ' := [S, .lst (ws.map tS), .int ((32 * j : Nat) : Int), .lst ((ys.map hx).map tS), j4]) (by
      rw [List.map_map]
      exact set_of lc) ?_
    have jn : dJoin (tS []) (.lst ((ys.map hx).map tS)) = .ok (tS (ys.map hx).flatten) := by
      rw [← joinL_nil]
      exact tJoin (k := 2) (n := 32) (fun w hw => by obtain ⟨b, _, rfl⟩ := List.mem_map.mp hw; exact Nat.le_refl _) (by rw [List.length_map]; exact ml) (by decide)
    have pl := pairs_len ys
    have ad : dAdd (tS (ys.map hx).flatten) (tS [10]) = .ok (tS ((ys.map hx).flatten ++ [10])) := tAdd (by rw [pl]; show _ + 1 ≤ _; omega)
    refine W.nx1 (ρ' := [S, .lst ((ws ++ [(ys.map hx).flatten ++ [10]]).map tS), .int ((32 * j : Nat) : Int), .lst ((ys.map hx).map tS), j4]) (Eq.trans (gApp_s (ds := ws.map tS) (d := tS ((ys.map hx).flatten ++ [10])) rfl ((g2L (x := tS (ys.map hx).flatten) (y := tS [10]) ((gJn_of rfl).trans jn) rfl).trans ad) (by rw [List.length_map, sizeLine_eq]; omega)) (by rw [List.map_append]; rfl)) ⟨ws ++ [(ys.map hx).flatten ++ [10]], ⟨?_, by rw [List.length_append]; show ws.length + 1 ≤ _; omega, fun w hw => ?_⟩, _, _, _, rfl⟩
    · rw [List.flatten_append, inv, show min (32 * j) n = 32 * j by omega, show min (32 * (j + 1)) n = 32 * j + m by omega, add, row]
      show _ ++ (_ ++ []) = _
      rw [List.append_nil]
    · rcases List.mem_append.mp hw with q | q
      · exact w100 w q
      · rw [List.mem_singleton.mp q, List.length_append, pl]
        show _ + 1 ≤ _
        omega
  · rintro ρ ⟨ws, ⟨inv, wl, w100⟩, j2, j3, j4, rfl⟩
    rw [show min (32 * ((n + 31) / 32)) n = n by omega] at inv
    rw [← inv, ← joinL_nil]
    exact W.rt1 ((gJn_of rfl).trans (tJoin (k := 100) (n := 40) w100 (by omega) (by decide))) rfl
theorem lhex_eq {xs : List Nat} (hb : ∀ x ∈ xs, x < 256) (hl : xs.length ≤ 1000) : f__law_hex [.lst (xs.map dN)] = .ok (tS (hP xs xs.length)) := by
  have len : dLen [.lst (xs.map dN)] = .ok (.int xs.length) := by show R.ok (D.int _) = _; rw [List.length_map]
  have ix : ∀ i, i < xs.length → dIx (.lst (xs.map dN)) (.int (i : Nat)) = .ok (dN (xs.getD i 0)) := fun i hi => ixL_get (by
    rw [List.getElem?_map, List.getD_eq_getElem?_getD, List.getElem?_eq_getElem hi]
    rfl)
  have bb : ∀ i, i < xs.length → xs.getD i 0 < 256 := fun i hi => hb _ (by rw [List.getD_eq_getElem?_getD, List.getElem?_eq_getElem hi]; exact List.getElem_mem hi)
  obtain ⟨S, eS⟩ : ∃ S, S = D.lst (xs.map dN) := ⟨_, rfl⟩
  rw [← eS] at len ix ⊢
  clear eS
  rw [f__law_hex_run, g__law_hex, F16_eq, e_nl, e_no]
  refine run_of ?_
  refine W.step (ρ' := [S, tS F16, .non, .non, .non]) rfl ?_
  refine W.step (ρ' := [S, tS F16, tS [], .non, .non]) rfl ?_
  refine W.forR (lo := 0) (cc := 1) (n := xs.length) (fun i ρ => ∃ (j3 : D) (j4 : D), ρ = [S, tS F16, tS (hP xs i), j3, j4]) (by
    show (gsC (gAll dLen (gsC (gv 0) gsN)) gsN _ >>= dRng1) = _
    rw [gs1 ((gAll1 (d := S) rfl).trans len)]
    exact rng1N (by omega)) ⟨_, _, rfl⟩ ?_ ?_
  · rintro i hi ρ ⟨j3, j4, rfl⟩
    rw [show (0 + (i : Int) * 1) = ((i : Nat) : Int) by omega]
    refine ⟨[S, tS F16, tS (hP xs i), .int (i : Nat), j4], rfl, ?_⟩
    have b256 := bb i hi
    have hs := hP_succ xs i
    have hlen := hP_len xs i
    unfold hE at hs
    refine W.step (ρ' := [S, tS F16, tS (hP xs i), .int (i : Nat), dN (xs.getD i 0)]) (set_of ((g2L rfl rfl).trans (ix i hi))) ?_
    generalize xs.getD i 0 = b at *
    have a1 : dAdd (tS (hP xs i)) (tS [F16.getD (b / 16) 0]) = .ok (tS (hP xs i ++ [F16.getD (b / 16) 0])) := tAdd (by show _ + 1 ≤ _; omega)
    have a2 : dAdd (tS (hP xs i ++ [F16.getD (b / 16) 0])) (tS [F16.getD (b % 16) 0]) = .ok (tS (hP xs i ++ hx b)) := (tAdd (by rw [List.length_append]; show _ + 1 + 1 ≤ _; omega)).trans (by rw [List.append_assoc]; rfl)
    refine W.step (ρ' := [S, tS F16, tS (hP xs i ++ hx b), .int (i : Nat), dN b]) (set_of ((g2L ((g2L rfl ((g2L rfl ((g2L rfl rfl).trans (div16 b))).trans (fig_ix (by omega)))).trans a1) ((g2L rfl ((g2L rfl rfl).trans (mod16 b))).trans (fig_ix (by omega)))).trans a2)) ?_
    have m32 : dMod (.int (i : Nat)) (.int 32) = .ok (.int ((i % 32 : Nat) : Int)) := (dMod_s (by decide)).trans (by rw [show ((i : Int) % 32) = ((i % 32 : Nat) : Int) by omega])
    have a3 : dAdd (tS (hP xs i ++ hx b)) (tS [10]) = .ok (tS (hP xs i ++ hx b ++ [10])) := tAdd (by rw [List.length_append]; show _ + 2 + 1 ≤ _; omega)
    refine W.ite (p := i % 32 = 31 ∨ i = xs.length - 1) ?_ (fun z => ?_) (fun z => ?_)
    · refine gOr_dec ?_ ?_
      · refine gB_bl ?_
        refine (g2L ((g2L rfl rfl).trans m32) rfl).trans ((dEq_i _ _).trans ?_)
        congr 2
        exact decide_eq_decide.mpr (by omega)
      · refine gB_bl ?_
        refine (g2L rfl ((g2L ((gAll1 rfl).trans len) rfl).trans (dSub_i _ _))).trans ((dEq_i _ _).trans ?_)
        congr 2
        exact decide_eq_decide.mpr (by omega)
    · rw [if_pos z, ← List.append_assoc] at hs
      exact W.nx1 (ρ' := [S, tS F16, tS (hP xs i ++ hx b ++ [10]), .int (i : Nat), dN b]) (set_of ((g2L rfl rfl).trans a3)) ⟨_, _, by rw [hs]⟩
    · rw [if_neg z, List.append_nil] at hs
      exact W.nx ⟨_, _, by rw [hs]⟩
  · rintro ρ ⟨j3, j4, rfl⟩
    exact W.rt1 rfl rfl
end LW
namespace LW
open PySem L2 DL
/-! k63: the loose text, the data, the law -/
theorem dig3 {k : Int} (h0 : 0 ≤ k) (h1 : k < 3) : ∃ e : List Nat, dIx (.lst [tS [], tS [32], tS [10]]) (.int k) = .ok (tS e) ∧ (∀ c ∈ e, blk c = true) ∧ e.length ≤ 1 := by
  have : k = 0 ∨ k = 1 ∨ k = 2 := by omega
  rcases this with q | q | q <;> subst q
  · exact ⟨[], rfl, (fun _ h => nomatch h), Nat.zero_le _⟩
  · exact ⟨[32], rfl, (fun c h => by rw [List.mem_singleton.mp h]; rfl), Nat.le_refl _⟩
  · exact ⟨[10], rfl, (fun c h => by rw [List.mem_singleton.mp h]; rfl), Nat.le_refl _⟩
theorem dig5 {k : Int} (h0 : 0 ≤ k) (h1 : k < 5) : ∃ e : List Nat, dIx (.lst [tS [], tS [], tS [32], tS [10], tS [32, 32, 10]]) (.int k) = .ok (tS e) ∧ (∀ c ∈ e, blk c = true) ∧ e.length ≤ 3 := by
  have : k = 0 ∨ k = 1 ∨ k = 2 ∨ k = 3 ∨ k = 4 := by omega
  rcases this with q | q | q | q | q <;> subst q
  · exact ⟨[], rfl, (fun _ h => nomatch h), Nat.zero_le _⟩
  · exact ⟨[], rfl, (fun _ h => nomatch h), Nat.zero_le _⟩
  · exact ⟨[32], rfl, (fun c h => by rw [List.mem_singleton.mp h]; rfl), by show 1 ≤ 3; omega⟩
  · exact ⟨[10], rfl, (fun c h => by rw [List.mem_singleton.mp h]; rfl), by show 1 ≤ 3; omega⟩
  · exact ⟨[32, 32, 10], rfl, (fun c h => by simp only [List.mem_cons, List.not_mem_nil, or_false] at h; rcases h with q | q | q <;> subst q <;> rfl), by show 3 ≤ 3; omega⟩
theorem rng_two {n : Nat} : (if (0 : Int) < ((2 * n : Nat) : Int) then ((((2 * n : Nat) : Int) - 0 - 1) / 2 + 1).toNat else 0) = n := by split <;> omega
theorem loose_eq {xs : List Nat} (hb : ∀ x ∈ xs, x < 256) (hl : xs.length ≤ 1000) (c : Int) : ∃ t, f__law_loose [tS ((xs.map hx).flatten), .int c] = .ok (tS t) ∧ Gb t xs ∧ t.length ≤ 5001 := by
  have pl := pairs_len xs
  have at2 := pair_at xs
  have bb : ∀ i, i < xs.length → xs.getD i 0 < 256 := fun i hi => hb _ (by rw [List.getD_eq_getElem?_getD, List.getElem?_eq_getElem hi]; exact List.getElem_mem hi)
  have len := tLen (a := (xs.map hx).flatten) (by omega)
  rw [pl] at len
  have sl := tSl (a := (xs.map hx).flatten) (by omega)
  generalize (xs.map hx).flatten = l at *
  have rg := dRng3_s (i := 0) (j := (2 * xs.length : Nat)) (c := 2) (by omega) (by omega) (by omega) (by omega) (by omega) (by omega)
  rw [rng_two] at rg
  have key : Ok (f__law_loose [tS l, .int c]) fun d => ∃ t, d = tS t ∧ Gb t xs ∧ t.length ≤ 5001 := by
    rw [f__law_loose_run, g__law_loose, e_nl, e_no, show Str.ofString " " = cS [32] by decide +kernel, show Str.ofString "  \n" = cS [32, 32, 10] by decide +kernel]
    refine W.fn ?_
    have x1 := mixed_eq c 1 3 (by omega) (by omega) (by omega)
    have b1 := mixI_lt c 1 3 (by omega)
    obtain ⟨e, ee, eb, el⟩ := dig3 b1.1 b1.2
    obtain ⟨L, eL⟩ : ∃ L, L = tS l := ⟨_, rfl⟩
    rw [← eL] at len sl ⊢
    clear eL
    refine W.step (ρ' := [L, .int c, tS e, .non, .non]) (set_of ((g2L (x := .lst [tS [], tS [32], tS [10]]) rfl ((gAll3 rfl rfl rfl).trans x1)).trans ee)) ?_
    refine W.forR (lo := 0) (cc := 2) (n := xs.length) (fun i ρ => ∃ t, (Gb t (xs.take i) ∧ t.length ≤ 1 + 5 * i) ∧ ∃ (j3 : D) (j4 : D), ρ = [L, .int c, tS t, j3, j4]) (by
      show (gsC (gc (.int 0)) (gsC (gAll dLen (gsC (gv 0) gsN)) (gsC (gc (.int 2)) gsN)) _ >>= dRng3) = _
      rw [gs3 (x := .int 0) (z := .int 2) rfl ((gAll1 (d := L) rfl).trans len) rfl, bind_ok]
      exact rg) ⟨e, ⟨by rw [List.take_zero]; exact Gb.bl eb, by omega⟩, _, _, rfl⟩ ?_ ?_
    · rintro i hi ρ ⟨t, ⟨gt, tl⟩, j3, j4, rfl⟩
      rw [show (0 + (i : Int) * 2) = ((2 * i : Nat) : Int) by omega]
      refine ⟨[L, .int c, tS t, .int ((2 * i : Nat) : Int), j4], rfl, ?_⟩
      have x2 := mixed_eq (c + ((2 * i : Nat) : Int)) 2 5 (by omega) (by omega) (by omega)
      have b2 := mixI_lt (c + ((2 * i : Nat) : Int)) 2 5 (by omega)
      obtain ⟨f, ef, fb, fl⟩ := dig5 b2.1 b2.2
      refine W.step (ρ' := [L, .int c, tS t, .int ((2 * i : Nat) : Int), tS f]) (set_of ((g2L (x := .lst [tS [], tS [], tS [32], tS [10], tS [32, 32, 10]]) rfl ((gAll3 ((g2L rfl rfl).trans (dAdd_i _ _)) rfl rfl).trans x2)).trans ef)) ?_
      have cut := cutD_at l (i := ((2 * i : Nat) : Int)) (j := ((2 * i : Nat) : Int) + 2) (by omega) (by omega)
      rw [show (((2 * i : Nat) : Int) + 2).toNat - (((2 * i : Nat) : Int)).toNat = 2 by omega, Int.toNat_natCast, at2 i hi] at cut
      have s1 := sl false (some ((2 * i : Nat) : Int)) (some (((2 * i : Nat) : Int) + 2))
      rw [cut] at s1
      have b256 := bb i hi
      have e1 : xs.take (i + 1) = xs.take i ++ ([xs.getD i 0] ++ []) := by
        rw [List.take_add_one, List.getD_eq_getElem?_getD, List.getElem?_eq_getElem hi]
        rfl
      have a1 : dAdd (tS t) (tS (hx (xs.getD i 0))) = .ok (tS (t ++ hx (xs.getD i 0))) := tAdd (by show t.length + 2 ≤ _; omega)
      have a2 : dAdd (tS (t ++ hx (xs.getD i 0))) (tS f) = .ok (tS (t ++ hx (xs.getD i 0) ++ f)) := tAdd (by rw [List.length_append]; show t.length + 2 + _ ≤ _; omega)
      refine W.nx1 (ρ' := [L, .int c, tS (t ++ hx (xs.getD i 0) ++ f), .int ((2 * i : Nat) : Int), tS f]) (set_of ((g2L ((g2L (y := tS (hx (xs.getD i 0))) rfl s1).trans a1) rfl).trans a2)) ⟨_, ⟨?_, ?_⟩, _, _, rfl⟩
      · rw [e1, List.append_assoc]
        exact gt.app ((Gb.hx b256).app (Gb.bl fb))
      · rw [List.length_append, List.length_append]
        show t.length + 2 + f.length ≤ _
        omega
    · rintro ρ ⟨t, ⟨gt, tl⟩, j3, j4, rfl⟩
      rw [List.take_length] at gt
      exact W.rt1 rfl ⟨t, rfl, gt, by omega⟩
  obtain ⟨d, e, t, rfl, h1, h2⟩ := key.ex
  exact ⟨t, e, h1, h2⟩
theorem data63 (ns : List Int) (hl : ns.length ≤ 63) : ∃ xs : List Nat, (∀ x ∈ xs, x < 256) ∧ xs.length ≤ 600 ∧ f__law_data [.lst (ns.map .int)] = .ok (.lst (xs.map dN)) := by
  have cell := cell_at_eq ns 0 (by decide)
  generalize ns.getD (0 : Int).toNat 0 = c0 at *
  have sl : dSl false (.lst (ns.map D.int)) none (some 120) = .ok (.lst (ns.map .int)) := by
    rw [dSl_l, cutD_to _ (by omega), List.take_of_length_le (by rw [List.length_map]; show ns.length ≤ 120; omega)]
  have key : Ok (f__law_data [.lst (ns.map .int)]) fun d => ∃ xs : List Nat, ((∀ x ∈ xs, x < 256) ∧ xs.length ≤ 600) ∧ d = .lst (xs.map dN) := by
    obtain ⟨S, eS⟩ : ∃ S, S = D.lst (ns.map D.int) := ⟨_, rfl⟩
    have it : dIter S = .ok (ns.map D.int) := by rw [eS]; rfl
    rw [← eS] at sl cell ⊢
    clear eS
    rw [f__law_data_run, g__law_data]
    refine W.fn ?_
    refine W.step (ρ' := [S, .lst [], .non, .non]) rfl ?_
    refine W.forM (ed := D.int) (xs := ns) (fun i ρ => ∃ xs : List Nat, ((∀ x ∈ xs, x < 256) ∧ xs.length ≤ 9 * i) ∧ ∃ (j2 : D) (j3 : D), ρ = [S, .lst (xs.map dN), j2, j3]) (by
      show (gSl false (gv 0) goN (goS (gc (.int 120))) _ >>= dIter) = _
      have e : gSl false (gv 0) goN (goS (gc (.int 120))) [S, .lst [], .non, .non] = .ok S := sl
      rw [e]
      exact it) ⟨[], ⟨(fun _ h => nomatch h), Nat.le_refl _⟩, _, _, rfl⟩ ?_ ?_
    · rintro i y hy ρ ⟨xs, ⟨xb, xl⟩, j2, j3, rfl⟩
      have hi := (List.getElem?_eq_some_iff.mp hy).1
      refine ⟨[S, .lst (xs.map dN), .int y, j3], rfl, ?_⟩
      have m9 : dMod (.int y) (.int 9) = .ok (.int (y % 9)) := dMod_s (by decide)
      obtain ⟨n, en⟩ : ∃ n : Nat, (n : Int) = 1 + y % 9 := ⟨(1 + y % 9).toNat, by omega⟩
      have n9 : n ≤ 9 := by omega
      have lc : gLc (gI dRng1 (gsC (g2 dAdd (gc (.int 1)) (g2 dMod (gv 2) (gc (.int 9)))) gsN)) (gtN 3) gtt (gAll f__law_mixed (gsC (gv 2) (gsC (gv 3) (gsC (gc (.int 256)) gsN)))) [S, .lst (xs.map dN), .int y, j3] = .ok (.lst (((List.range n).map fun k : Nat => (mixI y (k : Int) 256).toNat).map dN)) := by
        rw [List.map_map]
        refine gLc_rng (lo := 0) (c := 1) (n := n) (by
          show (gsC (g2 dAdd (gc (.int 1)) (g2 dMod (gv 2) (gc (.int 9)))) gsN _ >>= dRng1) = _
          rw [gs1 (x := .int (n : Nat)) ((g2L rfl ((g2L rfl rfl).trans m9)).trans ((dAdd_i _ _).trans (by rw [en])))]
          exact rng1N (by omega)) fun k hk => ⟨[S, .lst (xs.map dN), .int y, .int (k : Nat)], by rw [show (0 + (k : Int) * 1) = ((k : Nat) : Int) by omega]; rfl, ?_⟩
        have x1 := mixed_eq y (k : Nat) 256 (by omega) (by omega) (by omega)
        have b1 := mixI_lt y (k : Nat) 256 (by omega)
        refine (gAll3 rfl rfl rfl).trans (x1.trans ?_)
        show R.ok (D.int _) = R.ok (D.int ((mixI y (k : Int) 256).toNat : Nat))
        rw [Int.toNat_of_nonneg b1.1]
      have nb : ∀ x ∈ (List.range n).map fun k : Nat => (mixI y (k : Int) 256).toNat, x < 256 := fun x hx => by
        obtain ⟨k, _, rfl⟩ := List.mem_map.mp hx
        have b1 := mixI_lt y (k : Nat) 256 (by omega)
        omega
      have nl : ((List.range n).map fun k : Nat => (mixI y (k : Int) 256).toNat).length ≤ 9 := by rw [List.length_map, List.length_range]; exact n9
      generalize (List.range n).map (fun k : Nat => (mixI y (k : Int) 256).toNat) = zs at *
      refine W.nx1 (ρ' := [S, .lst ((xs ++ zs).map dN), .int y, j3]) (set_of ((g2L rfl lc).trans ((dAdd_lst (all_dN _) (all_dN _) (by rw [List.length_map, List.length_map]; omega)).trans (by rw [List.map_append])))) ⟨xs ++ zs, ⟨fun x hx => ?_, by rw [List.length_append]; omega⟩, _, _, rfl⟩
      rcases List.mem_append.mp hx with q | q
      · exact xb x q
      · exact nb x q
    · rintro ρ ⟨xs, ⟨xb, xl⟩, j2, j3, rfl⟩
      have m4 : dMod (.int c0) (.int 4) = .ok (.int (c0 % 4)) := dMod_s (by decide)
      have len : dLen [.lst (xs.map dN)] = .ok (.int xs.length) := by show R.ok (D.int _) = _; rw [List.length_map]
      refine W.iteS (p := c0 % 4 = 1) (gB_bl ((g2L ((g2L ((gAll2 rfl rfl).trans cell) rfl).trans m4) rfl).trans (dEq_i _ _))) (fun _ => ?_) (fun _ => W.nxS (W.rt1 rfl ⟨xs, ⟨xb, by omega⟩, rfl⟩))
      have d32 : dDiv (.int xs.length) (.int 32) = .ok (.int ((xs.length : Int) / 32)) := dDiv_s (by decide) (by decide)
      have mm : dMul (.int ((xs.length : Int) / 32)) (.int 32) = .ok (.int ((xs.length : Int) / 32 * 32)) := dMul_r (by decide) (by decide)
      have s2 : dSl false (.lst (xs.map dN)) none (some ((xs.length : Int) / 32 * 32)) = .ok (.lst ((xs.take ((xs.length : Int) / 32 * 32).toNat).map dN)) := by
        rw [dSl_l, cutD_map, cutD_to _ (by omega)]
      refine W.step (ρ' := [S, .lst ((xs.take ((xs.length : Int) / 32 * 32).toNat).map dN), j2, j3]) (set_of ?_) (W.rt1 rfl ⟨_, ⟨fun x hx => xb x (List.mem_of_mem_take hx), by rw [List.length_take]; omega⟩, rfl⟩)
      generalize D.lst (xs.map dN) = XL at *
      simp -implicitDefEqProofs only [finF, gSeq, gSet, gDrop, gRet, gIte, gNx, gIf, gB, gAnd, gOr, gNot, toBl, toB, g1, g2, gv, gc, gAll, gsC, gsN, gIter, dIter, gI, gJ, gFor, gUnp, gAug, gtN, gtT, gtU, gtsC, gtsN, nlD, nlB, goN, goS, toI, gSl, gtt, bind_ok, bind_bad, bind_exc, pure_ok, oR_some, oR_none, noX_ok, noX_bad, Option.bind_some, List.getD_cons_zero, List.getD_cons_succ, List.getD_nil, List.set_cons_zero, List.set_cons_succ, List.length_cons, List.length_nil, Nat.reduceAdd, dAdd_i, dSub_i, dNeg_i, dLt_i, dLe_i, dGt_i, dGe_i, dAnd_i, dOr_i, dXor_i, dEq_i, dNe_p, dMax_ii, dMin_ii, dAugAdd_i, dAugSub_i, dAugBitXor_i, dIsi_ii, dIsi_bi, dIsi_tt, if_true, ite_true, ite_false, Bool.false_eq_true, if_false, Bool.not_true, Bool.not_false, reduceIte, dMod_s, dDiv_s, Int.reduceLT, Int.reduceLE, Int.reduceNeg, Int.reducePow, Nat.reducePow, Nat.reduceLT, Int.reduceToNat, decide_eq_true_eq, Bool.true_eq_false, dLst_0, dTup_0, dLst_1, dTup_1, dLst_2, dTup_2, dLst_3, dTup_3, dLst_4, dTup_4, dLst_5, dTup_5, dLst_6, dTup_6, dLst_7, dTup_7, dLst_8, dTup_8, dLst_9, dTup_9, decide_true, decide_false, dIsi2_t, dIsi2_l, dIsi2_i, dIsi2_n, dIsi2_s, dIsi_tl, dIsi_ti, dIsi_tn, dIsi_ts, dIsi_si, dIsi_sn, dIsi_ss, dIsi_in, dIsi_it, dIsi_il, dIsi_is, dIsi_ib, dIsi_bb, len, d32, mm, s2]
  obtain ⟨d, e, xs, ⟨h1, h2⟩, rfl⟩ := key.ex
  exact ⟨xs, h1, h2, e⟩
theorem bytes_eq (cx : Nat → Addr) {t bs : List Nat} (h : Gd t bs) (l : low t) (hl : t.length ≤ 100000) : f__law_bytes cx [tS t] = .ok (.tup (bs.map dN)) := by
  have un := unhexed_some cx (by omega) l h.done
  rw [f__law_bytes_run, g__law_bytes]
  refine run_of ?_
  refine W.step (ρ' := [tS t, .non]) rfl ?_
  refine W.step (ρ' := [tS t, .tup (bs.map dN)]) ?_ (W.rt1 rfl rfl)
  unfold gTryO
  have e : gSet 1 (gCallN (f_unhexed cx) (gsC (gv 0) gsN)) [tS t, .non] = .ok (.nx [tS t, .tup (bs.map dN)]) := set_of (by
    show f_unhexed cx [tS t] = _
    exact un)
  rw [e]
theorem f_law_true (cx : Nat → Addr) (ns : List Int) (hl : ns.length ≤ 63) (hz : ∀ z ∈ ns, Builtin.Int.intBits z ≤ 1048576) : f_law cx [.lst (ns.map D.int)] = .ok (.bl true) := by
  obtain ⟨xs, xb, xl, ed⟩ := data63 ns hl
  have cell := cell_at_eq ns 1 (by decide)
  generalize ns.getD (1 : Int).toNat 0 = c1 at *
  have lh := lhex_eq xb (by omega)
  have h1 := hexed_eq .lst (.inl rfl) xb (by omega)
  have h2 := hexed_eq .tup (.inr rfl) xb (by omega)
  have gb := hP_gb xb xs.length (Nat.le_refl _)
  have tl := hP_len xs xs.length
  have st := hP_strike xb xs.length (Nat.le_refl _)
  rw [List.take_length] at gb st
  obtain ⟨t, le, gt, tlen⟩ := loose_eq xb (by omega) c1
  have rep : dRepl (Str.ofString "\n") (Str.ofString "") (tS (hP xs xs.length)) = .ok (tS ((xs.map hx).flatten)) := by
    have e0 : (Txt.replace (cS (hP xs xs.length)) ⟨#[10]⟩ ⟨#[]⟩).cps.toList = (xs.map hx).flatten := (PyProof.Rows.replace_strikes _ 10).trans st
    have e1 : Txt.replace (cS (hP xs xs.length)) ⟨#[10]⟩ ⟨#[]⟩ = cS ((xs.map hx).flatten) := by
      rw [← e0]
      rfl
    rw [e_nl, e_no]
    show (if (hP xs xs.length).length + ((hP xs xs.length).length + 1) * 0 ≤ 16777216 then R.ok (D.str (Txt.replace (cS (hP xs xs.length)) (cS [10]) (cS []))) else R.bad) = _
    rw [if_pos (by omega)]
    exact congrArg (fun s => R.ok (D.str s)) e1
  generalize (xs.map hx).flatten = u at *
  generalize hT : hP xs xs.length = T at *
  have up1 := tUpper (a := T) gb.l (by omega)
  have up2 := tUpper (a := t) gt.l (by omega)
  have b1 := bytes_eq cx gb.a gb.l (by omega)
  have b2 := bytes_eq cx gb.b gb.u (by rw [List.length_map]; omega)
  have b3 := bytes_eq cx gt.a gt.l (by omega)
  have b4 := bytes_eq cx gt.b gt.u (by rw [List.length_map]; omega)
  have al := alike_eq 6 (.tup (xs.map dN)) (.tup (by rw [List.length_map]; omega) fun x hx => by
    obtain ⟨q, _, rfl⟩ := List.mem_map.mp hx
    exact .int _)
  have nT : dNe (tS T) (tS T) = .ok (.bl false) := (tNe gb.l gb.l).trans (by rw [decide_eq_true rfl]; rfl)
  have nX : dNe (.lst (xs.map dN)) (.lst (xs.map dN)) = .ok (.bl false) := dNe_self (by
    have e : xs.map dN = (xs.map fun n : Nat => (n : Int)).map D.int := by rw [List.map_map]; rfl
    rw [e]
    exact .lst (OkDs.ints _))
  have dl : dList false [.lst (xs.map dN)] = .ok (.lst (xs.map dN)) := rfl
  have dt : dTuple false [.lst (xs.map dN)] = .ok (.tup (xs.map dN)) := rfl
  have isS : dIsi "str" (tS T) = .ok (.bl true) := rfl
  rw [f_law_run, g_law]
  generalize D.lst (ns.map D.int) = S at *
  generalize D.lst (xs.map dN) = XL at *
  generalize D.tup (xs.map dN) = XT at *
  refine run_of ?_
  refine W.step (ρ' := [S, XL, .non, .non, .non, .non, .non]) (set_of ((gAll1 rfl).trans ed)) ?_
  refine W.step (ρ' := [S, XL, XL, .non, .non, .non, .non]) (set_of ((gAll1 rfl).trans dl)) ?_
  refine W.step (ρ' := [S, XL, XL, tS T, .non, .non, .non]) (set_of ((gAll1 rfl).trans lh)) ?_
  refine W.step (ρ' := [S, XL, XL, tS T, tS T, .non, .non]) (set_of ((gAll1 rfl).trans h1)) ?_
  refine W.iteSF (gOr_F (gNotT (gB_bl ((g1L rfl).trans isS))) (gOr_F (gB_bl ((g2L rfl rfl).trans nT)) (gOr_F (gB_bl ((g2L rfl rfl).trans nX)) (gB_bl ((g2L ((gAll1 ((gAll1 rfl).trans dt)).trans h2) rfl).trans nT))))) (W.nxS ?_)
  refine W.step (ρ' := [S, XL, XL, tS T, tS T, tS t, .non]) (set_of ((gAll2 (a := tS u) ((g1L rfl).trans rep) ((gAll2 rfl rfl).trans cell)).trans le)) ?_
  refine W.forM (ed := tS) (xs := [T, T.map PyProof.Rows.up1, t, t.map PyProof.Rows.up1]) (fun _ ρ => ∃ (j6 : D), ρ = [S, XL, XL, tS T, tS T, tS t, j6]) (by
    show (gAll dLst _ _ >>= dIter) = _
    have e : gAll dLst (gsC (gv 3) (gsC (g1 (dT0 5592405 Txt.upper) (gv 3)) (gsC (gv 5) (gsC (g1 (dT0 5592405 Txt.upper) (gv 5)) gsN)))) [S, XL, XL, tS T, tS T, tS t, .non] = .ok (.lst [tS T, tS (T.map PyProof.Rows.up1), tS t, tS (t.map PyProof.Rows.up1)]) := by
      show (gsC _ _ _ >>= dLst) = _
      rw [gs4 (x := tS T) (z := tS t) rfl ((g1L rfl).trans up1) rfl ((g1L rfl).trans up2)]
      exact dLst_4 _ _ _ _
    rw [e]
    rfl) ⟨_, rfl⟩ ?_ ?_
  · rintro i w hw ρ ⟨j6, rfl⟩
    refine ⟨[S, XL, XL, tS T, tS T, tS t, tS w], rfl, ?_⟩
    have bw : f__law_bytes cx [tS w] = .ok XT := by
      have hm := List.mem_of_getElem? hw
      simp only [List.mem_cons, List.not_mem_nil, or_false] at hm
      rcases hm with q | q | q | q <;> subst q <;> assumption
    exact W.iteF (gNotT (gB_bl ((gAll2 ((gAll1 rfl).trans bw) ((gAll1 rfl).trans dt)).trans al))) (W.nx ⟨_, rfl⟩)
  · rintro ρ ⟨j6, rfl⟩
    exact W.rt1 rfl rfl
end LW
namespace LW
open PySem L2 DL
theorem all_mk {l : PySem.W.OpenLaw} {w : World} {K : PySem.W.Frag} {h : Heap} {mg : Str → Option Value} {fa : Addr} (X : K.In h) (G : h.Ns mainGlobals mg) (hfa : mg "law" = some (.ref fa))
    {od0 an0 : Option Addr} {sl0 : Array (Option Value)} {oc0 kV0 dc0 pm0 cd0 ct0 : Value} {p0 : Addr}
    {od1 an1 : Option Addr} {sl1 : Array (Option Value)} {oc1 kV1 dc1 pm1 cd1 ct1 : Value} {p1 : Addr}
    {od2 an2 : Option Addr} {sl2 : Array (Option Value)} {oc2 kV2 dc2 pm2 cd2 ct2 : Value} {p2 : Addr}
    {od3 an3 : Option Addr} {sl3 : Array (Option Value)} {oc3 kV3 dc3 pm3 cd3 ct3 : Value} {p3 : Addr}
    {od4 an4 : Option Addr} {sl4 : Array (Option Value)} {oc4 kV4 dc4 pm4 cd4 ct4 : Value} {p4 : Addr}
    {od5 an5 : Option Addr} {sl5 : Array (Option Value)} {oc5 kV5 dc5 pm5 cd5 ct5 : Value} {p5 : Addr}
    {od6 an6 : Option Addr} {sl6 : Array (Option Value)} {oc6 kV6 dc6 pm6 cd6 ct6 : Value} {p6 : Addr}
    {od7 an7 : Option Addr} {sl7 : Array (Option Value)} {oc7 kV7 dc7 pm7 cd7 ct7 : Value} {p7 : Addr}
    {od8 an8 : Option Addr} {sl8 : Array (Option Value)} {oc8 kV8 dc8 pm8 cd8 ct8 : Value} {p8 : Addr}
    {od9 an9 : Option Addr} {sl9 : Array (Option Value)} {oc9 kV9 dc9 pm9 cd9 ct9 : Value} {p9 : Addr}
    {od10 an10 : Option Addr} {sl10 : Array (Option Value)} {oc10 kV10 dc10 pm10 cd10 ct10 : Value} {p10 : Addr}
    {t_FIGURES : Tok}
    {t_IN_ROW : Tok}
    {t_BETWEEN : Tok}
    {ca_NoFile : Addr}
    {ca_PressError : Addr}
    (a0 : PySem.W.nsIn K mainGlobals "hexed" = some (some (.ref p0)))
    (l0 : K.lookup p0 = some ⟨oc0, od0, .func (PySem.W.fnOf "hexed" "hexed" (defArgs s_hexed) (defBody s_hexed) (defScope s_hexed) .none kV0 dc0 pm0 an0 cd0 ct0), sl0⟩)
    (c0 : PySem.W.codeIn K cd0 "hexed" = true) (k0 : PySem.W.keepIn K (.ref p0) = true)
    (a1 : PySem.W.nsIn K mainGlobals "unhexed" = some (some (.ref p1)))
    (l1 : K.lookup p1 = some ⟨oc1, od1, .func (PySem.W.fnOf "unhexed" "unhexed" (defArgs s_unhexed) (defBody s_unhexed) (defScope s_unhexed) .none kV1 dc1 pm1 an1 cd1 ct1), sl1⟩)
    (c1 : PySem.W.codeIn K cd1 "unhexed" = true) (k1 : PySem.W.keepIn K (.ref p1) = true)
    (a2 : PySem.W.nsIn K mainGlobals "_law_cell_at" = some (some (.ref p2)))
    (l2 : K.lookup p2 = some ⟨oc2, od2, .func (PySem.W.fnOf "_law_cell_at" "_law_cell_at" (defArgs s__law_cell_at) (defBody s__law_cell_at) (defScope s__law_cell_at) .none kV2 dc2 pm2 an2 cd2 ct2), sl2⟩)
    (c2 : PySem.W.codeIn K cd2 "_law_cell_at" = true) (k2 : PySem.W.keepIn K (.ref p2) = true)
    (a3 : PySem.W.nsIn K mainGlobals "_law_whole" = some (some (.ref p3)))
    (l3 : K.lookup p3 = some ⟨oc3, od3, .func (PySem.W.fnOf "_law_whole" "_law_whole" (defArgs s__law_whole) (defBody s__law_whole) (defScope s__law_whole) .none kV3 dc3 pm3 an3 cd3 ct3), sl3⟩)
    (c3 : PySem.W.codeIn K cd3 "_law_whole" = true) (k3 : PySem.W.keepIn K (.ref p3) = true)
    (a4 : PySem.W.nsIn K mainGlobals "_law_mixed" = some (some (.ref p4)))
    (l4 : K.lookup p4 = some ⟨oc4, od4, .func (PySem.W.fnOf "_law_mixed" "_law_mixed" (defArgs s__law_mixed) (defBody s__law_mixed) (defScope s__law_mixed) .none kV4 dc4 pm4 an4 cd4 ct4), sl4⟩)
    (c4 : PySem.W.codeIn K cd4 "_law_mixed" = true) (k4 : PySem.W.keepIn K (.ref p4) = true)
    (a5 : PySem.W.nsIn K mainGlobals "_law_alike" = some (some (.ref p5)))
    (l5 : K.lookup p5 = some ⟨oc5, od5, .func (PySem.W.fnOf "_law_alike" "_law_alike" (defArgs s__law_alike) (defBody s__law_alike) (defScope s__law_alike) .none kV5 dc5 pm5 an5 cd5 ct5), sl5⟩)
    (c5 : PySem.W.codeIn K cd5 "_law_alike" = true) (k5 : PySem.W.keepIn K (.ref p5) = true)
    (a6 : PySem.W.nsIn K mainGlobals "_law_data" = some (some (.ref p6)))
    (l6 : K.lookup p6 = some ⟨oc6, od6, .func (PySem.W.fnOf "_law_data" "_law_data" (defArgs s__law_data) (defBody s__law_data) (defScope s__law_data) .none kV6 dc6 pm6 an6 cd6 ct6), sl6⟩)
    (c6 : PySem.W.codeIn K cd6 "_law_data" = true) (k6 : PySem.W.keepIn K (.ref p6) = true)
    (a7 : PySem.W.nsIn K mainGlobals "_law_hex" = some (some (.ref p7)))
    (l7 : K.lookup p7 = some ⟨oc7, od7, .func (PySem.W.fnOf "_law_hex" "_law_hex" (defArgs s__law_hex) (defBody s__law_hex) (defScope s__law_hex) .none kV7 dc7 pm7 an7 cd7 ct7), sl7⟩)
    (c7 : PySem.W.codeIn K cd7 "_law_hex" = true) (k7 : PySem.W.keepIn K (.ref p7) = true)
    (a8 : PySem.W.nsIn K mainGlobals "_law_loose" = some (some (.ref p8)))
    (l8 : K.lookup p8 = some ⟨oc8, od8, .func (PySem.W.fnOf "_law_loose" "_law_loose" (defArgs s__law_loose) (defBody s__law_loose) (defScope s__law_loose) .none kV8 dc8 pm8 an8 cd8 ct8), sl8⟩)
    (c8 : PySem.W.codeIn K cd8 "_law_loose" = true) (k8 : PySem.W.keepIn K (.ref p8) = true)
    (a9 : PySem.W.nsIn K mainGlobals "_law_bytes" = some (some (.ref p9)))
    (l9 : K.lookup p9 = some ⟨oc9, od9, .func (PySem.W.fnOf "_law_bytes" "_law_bytes" (defArgs s__law_bytes) (defBody s__law_bytes) (defScope s__law_bytes) .none kV9 dc9 pm9 an9 cd9 ct9), sl9⟩)
    (c9 : PySem.W.codeIn K cd9 "_law_bytes" = true) (k9 : PySem.W.keepIn K (.ref p9) = true)
    (a10 : PySem.W.nsIn K mainGlobals "law" = some (some (.ref p10)))
    (l10 : K.lookup p10 = some ⟨oc10, od10, .func (PySem.W.fnOf "law" "law" (defArgs s_law) (defBody s_law) (defScope s_law) .none kV10 dc10 pm10 an10 cd10 ct10), sl10⟩)
    (c10 : PySem.W.codeIn K cd10 "law" = true) (k10 : PySem.W.keepIn K (.ref p10) = true)
    (v_FIGURES : PySem.W.nsIn K mainGlobals "FIGURES" = some (some (.str (Str.ofString "0123456789abcdef") t_FIGURES)))
    (v_IN_ROW : PySem.W.nsIn K mainGlobals "IN_ROW" = some (some (.int 32 t_IN_ROW)))
    (v_BETWEEN : PySem.W.nsIn K mainGlobals "BETWEEN" = some (some (.str (Str.ofString " \n") t_BETWEEN)))
    (nc_NoFile : PySem.W.nsIn K mainGlobals "NoFile" = some (some (.ref ca_NoFile)))
    (nc_PressError : PySem.W.nsIn K mainGlobals "PressError" = some (some (.ref ca_PressError)))
    (oq_NoFile : PySem.W.excIn K ca_NoFile [.type "ValueError", .type "Exception", .type "BaseException", .type "object"] "ValueError.__new__" = true)
    (ok_NoFile : PySem.W.keepIn K (.ref ca_NoFile) = true)
    (ob_NoFile : PySem.W.subIn K (.ref ca_NoFile) (.type "BaseException") = some true)
    (ot_NoFile : PySem.W.typeIn K (.ref ca_NoFile) = some (.type "type"))
    (m_NoFile_PressError : PySem.W.exmOne K (.ref ca_NoFile) (.ref ca_PressError) = some true)
    (z_range : PySem.W.nsIn K mainGlobals "range" = some none)
    (z_len : PySem.W.nsIn K mainGlobals "len" = some none)
    (z_list : PySem.W.nsIn K mainGlobals "list" = some none)
    (z_tuple : PySem.W.nsIn K mainGlobals "tuple" = some none)
    (z_isinstance : PySem.W.nsIn K mainGlobals "isinstance" = some none)
    (z_int : PySem.W.nsIn K mainGlobals "int" = some none)
    (z_bool : PySem.W.nsIn K mainGlobals "bool" = some none)
    (z_str : PySem.W.nsIn K mainGlobals "str" = some none)
    (z_max : PySem.W.nsIn K mainGlobals "max" = some none)
    (z_min : PySem.W.nsIn K mainGlobals "min" = some none)
    (z_abs : PySem.W.nsIn K mainGlobals "abs" = some none)
    (z_all : PySem.W.nsIn K mainGlobals "all" = some none)
    (z_any : PySem.W.nsIn K mainGlobals "any" = some none)
    (z_sum : PySem.W.nsIn K mainGlobals "sum" = some none)
    (z_sorted : PySem.W.nsIn K mainGlobals "sorted" = some none)
    (z_divmod : PySem.W.nsIn K mainGlobals "divmod" = some none)
    (z_enumerate : PySem.W.nsIn K mainGlobals "enumerate" = some none)
    (z_zip : PySem.W.nsIn K mainGlobals "zip" = some none)
    (z_reversed : PySem.W.nsIn K mainGlobals "reversed" = some none)
    (z_repr : PySem.W.nsIn K mainGlobals "repr" = some none)
    (z_set : PySem.W.nsIn K mainGlobals "set" = some none) :
    ∃ fd : FuncData, (∀ (s : Shared) (v : Value), BindsTo s fd ⟨[v], []⟩ [("_law_script", v)]) ∧ ∀ base : Heap, K.In base → base.Ns mainGlobals mg → FnOk l.prog w K mg base (L2.CX l.prog w) 9 fa fd ["_law_script"] (@spT noTbs K) := by
  letI : Tbs := noTbs
  have e := hfa.symm.trans (PySem.W.mg_of X G a10)
  cases e
  have B : Bn mg := ⟨PySem.W.mg_none_of X G z_range, PySem.W.mg_none_of X G z_len, PySem.W.mg_none_of X G z_list, PySem.W.mg_none_of X G z_tuple, PySem.W.mg_none_of X G z_isinstance, PySem.W.mg_none_of X G z_int, PySem.W.mg_none_of X G z_bool, PySem.W.mg_none_of X G z_str, PySem.W.mg_none_of X G z_max, PySem.W.mg_none_of X G z_min, PySem.W.mg_none_of X G z_abs, PySem.W.mg_none_of X G z_all, PySem.W.mg_none_of X G z_any, PySem.W.mg_none_of X G z_sum, PySem.W.mg_none_of X G z_sorted, PySem.W.mg_none_of X G z_divmod, PySem.W.mg_none_of X G z_enumerate, PySem.W.mg_none_of X G z_zip, PySem.W.mg_none_of X G z_reversed, PySem.W.mg_none_of X G z_repr, PySem.W.mg_none_of X G z_set⟩
  have h_FIGURES : Cst K mg "FIGURES" (.str (Str.ofString "0123456789abcdef")) (.str (Str.ofString "0123456789abcdef")) := .str (PySem.W.mg_of X G v_FIGURES)
  have h_IN_ROW : Cst K mg "IN_ROW" (.int 32) (.int 32) := .int (PySem.W.mg_of X G v_IN_ROW)
  have h_BETWEEN : Cst K mg "BETWEEN" (.str (Str.ofString " \n")) (.str (Str.ofString " \n")) := .str (PySem.W.mg_of X G v_BETWEEN)
  have O_NoFile : OwnX K mg "NoFile" ca_NoFile := ⟨oq_NoFile, PySem.W.mg_of X G nc_NoFile, ok_NoFile, ob_NoFile, ot_NoFile⟩
  have P_PressError := PySem.W.mg_of X G nc_PressError
  have F0 := fun_mk (st := s_hexed) l0 c0 k0
  have b0 := F0.binds (ps := ["data"]) fun _ _ _ _ _ _ us hl => match us, hl with | [_], _ => rfl
  have F1 := fun_mk (st := s_unhexed) l1 c1 k1
  have b1 := F1.binds (ps := ["text"]) fun _ _ _ _ _ _ us hl => match us, hl with | [_], _ => rfl
  have F2 := fun_mk (st := s__law_cell_at) l2 c2 k2
  have b2 := F2.binds (ps := ["_law_script", "_law_k"]) fun _ _ _ _ _ _ us hl => match us, hl with | [_, _], _ => rfl
  have F3 := fun_mk (st := s__law_whole) l3 c3 k3
  have b3 := F3.binds (ps := ["_law_found"]) fun _ _ _ _ _ _ us hl => match us, hl with | [_], _ => rfl
  have F4 := fun_mk (st := s__law_mixed) l4 c4 k4
  have b4 := F4.binds (ps := ["_law_cell", "_law_k", "_law_many"]) fun _ _ _ _ _ _ us hl => match us, hl with | [_, _, _], _ => rfl
  have F5 := fun_mk (st := s__law_alike) l5 c5 k5
  have b5 := F5.binds (ps := ["_law_found", "_law_due"]) fun _ _ _ _ _ _ us hl => match us, hl with | [_, _], _ => rfl
  have F6 := fun_mk (st := s__law_data) l6 c6 k6
  have b6 := F6.binds (ps := ["_law_script"]) fun _ _ _ _ _ _ us hl => match us, hl with | [_], _ => rfl
  have F7 := fun_mk (st := s__law_hex) l7 c7 k7
  have b7 := F7.binds (ps := ["_law_data_here"]) fun _ _ _ _ _ _ us hl => match us, hl with | [_], _ => rfl
  have F8 := fun_mk (st := s__law_loose) l8 c8 k8
  have b8 := F8.binds (ps := ["_law_built", "_law_cell"]) fun _ _ _ _ _ _ us hl => match us, hl with | [_, _], _ => rfl
  have F9 := fun_mk (st := s__law_bytes) l9 c9 k9
  have b9 := F9.binds (ps := ["_law_text"]) fun _ _ _ _ _ _ us hl => match us, hl with | [_], _ => rfl
  have F10 := fun_mk (st := s_law) l10 c10 k10
  refine ⟨PySem.W.fnOf "law" "law" (defArgs s_law) (defBody s_law) (defScope s_law) .none kV10 dc10 pm10 an10 cd10 ct10, fun s v => .of_eq rfl, fun base _ _ => ?_⟩
  have h_hexed : FnD l.prog w K mg base 1 "hexed" [.fr] M.fr f_hexed := ⟨p0, _, _, D_hexed B h_FIGURES h_IN_ROW F0, PySem.W.mg_of X G a0, F0.kp, b0⟩
  have h_unhexed : FnD l.prog w K mg base 1 "unhexed" [.fr] M.fr (f_unhexed (cxOfL [ca_PressError, ca_NoFile])) := ⟨p1, _, _, D_unhexed (cx := (cxOfL [ca_PressError, ca_NoFile])) B h_BETWEEN h_FIGURES O_NoFile F1, PySem.W.mg_of X G a1, F1.kp, b1⟩
  have h__law_cell_at : FnD l.prog w K mg base 1 "_law_cell_at" [.fr, .fr] M.fr f__law_cell_at := ⟨p2, _, _, D__law_cell_at B F2, PySem.W.mg_of X G a2, F2.kp, b2⟩
  have h__law_whole : FnD l.prog w K mg base 1 "_law_whole" [.fr] M.fr f__law_whole := ⟨p3, _, _, D__law_whole B F3, PySem.W.mg_of X G a3, F3.kp, b3⟩
  have h__law_mixed : FnD l.prog w K mg base 1 "_law_mixed" [.fr, .fr, .fr] M.fr f__law_mixed := ⟨p4, _, _, D__law_mixed B F4, PySem.W.mg_of X G a4, F4.kp, b4⟩
  have h__law_alike : FnD l.prog w K mg base 2 "_law_alike" [.fr, .fr] M.fr (F__law_alike 0) := ⟨p5, _, _, D__law_alike_0 B h__law_whole F5, PySem.W.mg_of X G a5, F5.kp, b5⟩
  have h__law_alike : FnD l.prog w K mg base 3 "_law_alike" [.fr, .fr] M.fr (F__law_alike 1) := ⟨p5, _, _, D__law_alike_1 B h__law_whole h__law_alike F5, PySem.W.mg_of X G a5, F5.kp, b5⟩
  have h__law_alike : FnD l.prog w K mg base 4 "_law_alike" [.fr, .fr] M.fr (F__law_alike 2) := ⟨p5, _, _, D__law_alike_2 B h__law_whole h__law_alike F5, PySem.W.mg_of X G a5, F5.kp, b5⟩
  have h__law_alike : FnD l.prog w K mg base 5 "_law_alike" [.fr, .fr] M.fr (F__law_alike 3) := ⟨p5, _, _, D__law_alike_3 B h__law_whole h__law_alike F5, PySem.W.mg_of X G a5, F5.kp, b5⟩
  have h__law_alike : FnD l.prog w K mg base 6 "_law_alike" [.fr, .fr] M.fr (F__law_alike 4) := ⟨p5, _, _, D__law_alike_4 B h__law_whole h__law_alike F5, PySem.W.mg_of X G a5, F5.kp, b5⟩
  have h__law_alike : FnD l.prog w K mg base 7 "_law_alike" [.fr, .fr] M.fr (F__law_alike 5) := ⟨p5, _, _, D__law_alike_5 B h__law_whole h__law_alike F5, PySem.W.mg_of X G a5, F5.kp, b5⟩
  have h__law_alike : FnD l.prog w K mg base 8 "_law_alike" [.fr, .fr] M.fr (F__law_alike 6) := ⟨p5, _, _, D__law_alike_6 B h__law_whole h__law_alike F5, PySem.W.mg_of X G a5, F5.kp, b5⟩
  have h__law_data : FnD l.prog w K mg base 2 "_law_data" [.fr] M.fr f__law_data := ⟨p6, _, _, D__law_data B h__law_cell_at h__law_mixed F6, PySem.W.mg_of X G a6, F6.kp, b6⟩
  have h__law_hex : FnD l.prog w K mg base 1 "_law_hex" [.fr] M.fr f__law_hex := ⟨p7, _, _, D__law_hex B F7, PySem.W.mg_of X G a7, F7.kp, b7⟩
  have h__law_loose : FnD l.prog w K mg base 2 "_law_loose" [.fr, .fr] M.fr f__law_loose := ⟨p8, _, _, D__law_loose B h__law_mixed F8, PySem.W.mg_of X G a8, F8.kp, b8⟩
  have h__law_bytes : FnD l.prog w K mg base 2 "_law_bytes" [.fr] M.fr (f__law_bytes (cxOfL [ca_PressError, ca_NoFile])) := ⟨p9, _, _, D__law_bytes (cx := (cxOfL [ca_PressError, ca_NoFile])) B P_PressError m_NoFile_PressError h_unhexed F9, PySem.W.mg_of X G a9, F9.kp, b9⟩
  exact (D_law (cx := (cxOfL [ca_PressError, ca_NoFile])) B h_hexed h__law_cell_at h__law_alike h__law_data h__law_hex h__law_loose h__law_bytes F10).imp (spT_of (f_law_true (cxOfL [ca_PressError, ca_NoFile])))
theorem walk {l : PySem.W.OpenLaw} {q : Program} {loose : List Str} {XP : (Str → Option Value) → Heap → Prop} {YP : World → Heap → Prop} {d : DefRec} {K : Params → PySem.W.Frag} (hn : l.most = some 63) (hdf : d.params.defaults = [])
    (hY : ∀ (w : World) (h : Heap), YP w h → (K w.params).In h)
    (F : ∀ (w : World) (mg : Str → Option Value) (fa : Addr) (h : Heap), (K w.params).In h → h.Ns mainGlobals mg → mg d.name = some (.ref fa) →
      ∃ fd : FuncData, (∀ (s : Shared) (u : Value), BindsTo s fd ⟨[u], []⟩ [("_law_script", u)]) ∧ ∀ base : Heap, (K w.params).In base → base.Ns mainGlobals mg → FnOk l.prog w (K w.params) mg base (L2.CX l.prog w) 9 fa fd ["_law_script"] (@spT noTbs (K w.params))) :
    PySem.W.WalkO q loose XP YP l.row.toRowW d [] (fun f vs => PySem.call f vs) := walk_lawX hn hdf ⟨rfl, by decide, by decide⟩ hY F
end LW
open PySem PySem.W PyProof.Rows in
set_option maxRecDepth 100000 in
set_option maxHeartbeats 0 in
theorem PySem.Challenge.cw_pointpress_k63_hexed_holds : PySem.Challenge.rw_pointpress_k63_hexed.Holds := by
  w_on; o_law; k_head; (case hw => w_witness2)
  k_fill
  refine LW.walk (l := PySem.Challenge.rw_pointpress_k63_hexed) rfl rfl (fun w h Y => PySem.W.kIn_of Y) ?F
  case F =>
    intro w mg fa h KX G hmg
    refine' LW.all_mk KX G hmg ?a0 ?l0 ?c0 ?k0 ?a1 ?l1 ?c1 ?k1 ?a2 ?l2 ?c2 ?k2 ?a3 ?l3 ?c3 ?k3 ?a4 ?l4 ?c4 ?k4 ?a5 ?l5 ?c5 ?k5 ?a6 ?l6 ?c6 ?k6 ?a7 ?l7 ?c7 ?k7 ?a8 ?l8 ?c8 ?k8 ?a9 ?l9 ?c9 ?k9 ?a10 ?l10 ?c10 ?k10 ?v_FIGURES ?v_IN_ROW ?v_BETWEEN ?nc_NoFile ?nc_PressError ?oq_NoFile ?ok_NoFile ?ob_NoFile ?ot_NoFile ?m_NoFile_PressError ?z_range ?z_len ?z_list ?z_tuple ?z_isinstance ?z_int ?z_bool ?z_str ?z_max ?z_min ?z_abs ?z_all ?z_any ?z_sum ?z_sorted ?z_divmod ?z_enumerate ?z_zip ?z_reversed ?z_repr ?z_set
    (case a0 => k_is)
    (case l0 => k_is)
    (case c0 => k_is)
    (case k0 => k_is)
    (case a1 => k_is)
    (case l1 => k_is)
    (case c1 => k_is)
    (case k1 => k_is)
    (case a2 => k_is)
    (case l2 => k_is)
    (case c2 => k_is)
    (case k2 => k_is)
    (case a3 => k_is)
    (case l3 => k_is)
    (case c3 => k_is)
    (case k3 => k_is)
    (case a4 => k_is)
    (case l4 => k_is)
    (case c4 => k_is)
    (case k4 => k_is)
    (case a5 => k_is)
    (case l5 => k_is)
    (case c5 => k_is)
    (case k5 => k_is)
    (case a6 => k_is)
    (case l6 => k_is)
    (case c6 => k_is)
    (case k6 => k_is)
    (case a7 => k_is)
    (case l7 => k_is)
    (case c7 => k_is)
    (case k7 => k_is)
    (case a8 => k_is)
    (case l8 => k_is)
    (case c8 => k_is)
    (case k8 => k_is)
    (case a9 => k_is)
    (case l9 => k_is)
    (case c9 => k_is)
    (case k9 => k_is)
    (case a10 => k_is)
    (case l10 => k_is)
    (case c10 => k_is)
    (case k10 => k_is)
    (case v_FIGURES => k_is)
    (case v_IN_ROW => k_is)
    (case v_BETWEEN => k_is)
    (case nc_NoFile => k_is)
    (case nc_PressError => k_is)
    (case oq_NoFile => k_exc)
    (case ok_NoFile => k_is)
    (case ob_NoFile => k_is)
    (case ot_NoFile => k_is)
    (case m_NoFile_PressError => kts_exm)
    (case z_range => k_is)
    (case z_len => k_is)
    (case z_list => k_is)
    (case z_tuple => k_is)
    (case z_isinstance => k_is)
    (case z_int => k_is)
    (case z_bool => k_is)
    (case z_str => k_is)
    (case z_max => k_is)
    (case z_min => k_is)
    (case z_abs => k_is)
    (case z_all => k_is)
    (case z_any => k_is)
    (case z_sum => k_is)
    (case z_sorted => k_is)
    (case z_divmod => k_is)
    (case z_enumerate => k_is)
    (case z_zip => k_is)
    (case z_reversed => k_is)
    (case z_repr => k_is)
    (case z_set => k_is)
