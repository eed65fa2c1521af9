import PyProof.Rows.All
import Wide.All
import OpenK.AllK
import Wide.FinOn
import HandS.ForMost
import HandS.Flow
import HandS.Deep
import HandS.IsInst
import HandS.DictComp
import HandS.TupAny
import HandS.Zip
import HandS.SetKeys
import HandS.Style
import HandS.Lambda
import KE.KDictKeyed
import KE.KeyNested
import KE.DataEq
import KE.LtData
import KE.SortData
import HandS.Defaults
import HandS.CallLocal
import HandS.WordsDict
import HandS.TryMany
import HandS.ExcField
import HandS.ExcIs
import HandS.ExcSuper
import HandS.ExcInit
import HandS.ExcOwn
import HandS.WordsExc
import KE.KSuper
import KE.KExcSuper
import KE.KDictWalk
import HandS.Conv
import HandS.Keys
import HandS.ExcValue
import KE.KDictSum
import KE.DataFind
import KE.KEqDict
import KE.GoesMore
import KE.GoesEnum
import HandS.TupLe
import KE.DataCmp
import KE.KDictDisplayH
import KE.KDictZip
import KE.KDictItemsList
import HandS.ListItems
import KE.GoesEnumKw
import PyProof.Rows.CallKwBuiltin
import PyProof.ReprRoads
import HandS.EndTab
import KE.DatumOrd
import PySem.Challenge.RW_everyboxout_k81_whole_classes_of_like_ya
import HandS.Head0
import HandS.Head1
import HandS.Head2
import HandS.HeadEnd
import HandS.HeadHook1
import HandS.HeadHook2
section
set_option Elab.async false
set_option linter.all false
set_option maxRecDepth 100000
set_option maxHeartbeats 4000000
/-! The data layer over the hand layer: tuples are trees (D), lists and dicts stand in an abstract store (Gp). -/
namespace DL
open PySem PySem.Spec PyProof.Rows L2

/-- what a datum leans on beside the written part: the module's names, the world -/
structure Mg where
  g : Str → Option Value
  prog : Program
  w : World
abbrev _root_.L2.Cx.m (X : Cx) : Mg := ⟨X.mg, X.prog, X.w⟩
/-- a datum: a tuple is a tree, a list or a dict stands at an address, gl x is what the module's name x stands for -/
inductive D where
  | non | bl (b : Bool) | int (i : Int) | str (x : Str) | tup (l : List D) | ref (a : Addr) | gl (x : Str) | ty (n : String)

section
variable (K : PySem.W.Frag) (mg : Mg) (H : Hp)
mutual
/-- the value v is the datum -/
def Rv : D → V → Prop
  | .non, v => v = .non
  | .bl b, v => v = .bl b
  | .int i, v => v = .int i
  | .str x, v => v = .str x
  | .ref a, v => v = .ref a
  | .ty n, v => v = .ty n
  | .gl x, v => ∃ a, mg.g x = some (.ref a) ∧ v = .ref a
  | .tup l, v => ∃ a vs, v = .ref a ∧ SqT K H a vs ∧ Rvs l vs ∧ l.length ≤ sizeLine
def Rvs : List D → List V → Prop
  | [], vs => vs = []
  | d :: r, vs => ∃ v ws, vs = v :: ws ∧ Rv d v ∧ Rvs r ws
end
end

/-- what stands in the store: a list, a list that stays, a dict with keys that are ints and texts, one whose keys are tuples (their nested keys beside them) -/
inductive DO where
  | lst (l : List D) | fl (l : List D) | dk (kvs : List (Key × D)) | dn (kvs : List (NestedKey × D × D)) | tb (q : Str) | dnl (ob : Obj × List (NestedKey × Addr × Value)) (kvs : List (NestedKey × D × D))
abbrev Gp := Addr → Option DO
def up (G : Gp) (a : Addr) (o : DO) : Gp := fun b => if b = a then some o else G b
theorem up_same {G : Gp} {a : Addr} {o : DO} : up G a o a = some o := by unfold up; rw [if_pos rfl]
theorem up_ne {G : Gp} {a b : Addr} {o : DO} (h : b ≠ a) : up G a o b = G b := by unfold up; rw [if_neg h]
theorem up_up {G : Gp} {a : Addr} {o u : DO} : up (up G a o) a u = up G a u := by
  funext b; unfold up; split <;> rfl

section
variable {K : PySem.W.Frag} {mg : Mg} {H H' H1 H2 : Hp}
theorem Rvs.length : ∀ {l : List D} {vs : List V}, Rvs K mg H l vs → l.length = vs.length
  | [], _, h => by rw [Rvs] at h; subst h; rfl
  | d :: r, _, h => by
    rw [Rvs] at h
    obtain ⟨v, ws, rfl, _, h2⟩ := h
    rw [List.length_cons, List.length_cons, Rvs.length h2]
theorem rvs_nil : Rvs K mg H [] [] := by rw [Rvs]
theorem rvs_cons {d : D} {r : List D} {v : V} {ws : List V} (h : Rv K mg H d v) (t : Rvs K mg H r ws) : Rvs K mg H (d :: r) (v :: ws) := by
  rw [Rvs]; exact ⟨v, ws, rfl, h, t⟩
theorem rvs_nil_inv {vs : List V} (h : Rvs K mg H [] vs) : vs = [] := by rwa [Rvs] at h
theorem rvs_cons_inv {d : D} {r : List D} {vs : List V} (h : Rvs K mg H (d :: r) vs) : ∃ v ws, vs = v :: ws ∧ Rv K mg H d v ∧ Rvs K mg H r ws := by rwa [Rvs] at h
theorem Rvs.append : ∀ {l m : List D} {vs ws : List V}, Rvs K mg H l vs → Rvs K mg H m ws → Rvs K mg H (l ++ m) (vs ++ ws)
  | [], _, _, _, h, t => by rw [rvs_nil_inv h]; exact t
  | d :: r, _, _, _, h, t => by
    obtain ⟨v, ws, rfl, h1, h2⟩ := rvs_cons_inv h
    exact rvs_cons h1 (Rvs.append h2 t)
theorem Rvs.get : ∀ {l : List D} {vs : List V} {i : Nat} {d : D}, Rvs K mg H l vs → l[i]? = some d → ∃ v, vs[i]? = some v ∧ Rv K mg H d v
  | [], _, _, _, _, e => by simp at e
  | d :: r, _, 0, x, h, e => by
    obtain ⟨v, ws, rfl, h1, h2⟩ := rvs_cons_inv h
    simp at e; subst e
    exact ⟨v, rfl, h1⟩
  | d :: r, _, i + 1, x, h, e => by
    obtain ⟨v, ws, rfl, h1, h2⟩ := rvs_cons_inv h
    obtain ⟨u, e1, e2⟩ := Rvs.get (i := i) (d := x) h2 (by simpa using e)
    exact ⟨u, by simpa using e1, e2⟩
theorem Rvs.take : ∀ {l : List D} {vs : List V} (n : Nat), Rvs K mg H l vs → Rvs K mg H (l.take n) (vs.take n)
  | [], _, n, h => by rw [rvs_nil_inv h, List.take_nil, List.take_nil]; exact rvs_nil
  | d :: r, _, 0, h => by rw [List.take_zero, List.take_zero]; exact rvs_nil
  | d :: r, _, n + 1, h => by
    obtain ⟨v, ws, rfl, h1, h2⟩ := rvs_cons_inv h
    exact rvs_cons h1 (Rvs.take n h2)
theorem Rvs.drop : ∀ {l : List D} {vs : List V} (n : Nat), Rvs K mg H l vs → Rvs K mg H (l.drop n) (vs.drop n)
  | [], _, n, h => by rw [rvs_nil_inv h, List.drop_nil, List.drop_nil]; exact rvs_nil
  | d :: r, _, 0, h => h
  | d :: r, _, n + 1, h => by
    obtain ⟨v, ws, rfl, h1, h2⟩ := rvs_cons_inv h
    exact Rvs.drop n h2
theorem Rvs.set : ∀ {l : List D} {vs : List V} {d : D} {v : V} (i : Nat), Rvs K mg H l vs → Rv K mg H d v → Rvs K mg H (l.set i d) (vs.set i v)
  | [], _, _, _, i, h, _ => by rw [rvs_nil_inv h]; exact rvs_nil
  | d :: r, _, _, _, 0, h, t => by
    obtain ⟨v, ws, rfl, h1, h2⟩ := rvs_cons_inv h
    exact rvs_cons t h2
  | d :: r, _, _, _, i + 1, h, t => by
    obtain ⟨v, ws, rfl, h1, h2⟩ := rvs_cons_inv h
    exact rvs_cons h1 (Rvs.set i h2 t)
theorem Rvs.eraseIdx : ∀ {l : List D} {vs : List V} (i : Nat), Rvs K mg H l vs → Rvs K mg H (l.eraseIdx i) (vs.eraseIdx i)
  | [], _, i, h => by rw [rvs_nil_inv h]; exact rvs_nil
  | d :: r, _, 0, h => by
    obtain ⟨v, ws, rfl, h1, h2⟩ := rvs_cons_inv h
    exact h2
  | d :: r, _, i + 1, h => by
    obtain ⟨v, ws, rfl, h1, h2⟩ := rvs_cons_inv h
    exact rvs_cons h1 (Rvs.eraseIdx i h2)
theorem Rvs.reverse {l : List D} {vs : List V} (h : Rvs K mg H l vs) : Rvs K mg H l.reverse vs.reverse := by
  induction l generalizing vs with
  | nil => rw [rvs_nil_inv h]; exact rvs_nil
  | cons d r ih =>
    obtain ⟨v, ws, rfl, h1, h2⟩ := rvs_cons_inv h
    rw [List.reverse_cons, List.reverse_cons]
    exact (ih h2).append (rvs_cons h1 rvs_nil)
/-- tuples and code objects stay -/
structure TupKeep (K : PySem.W.Frag) (H H' : Hp) : Prop where
  tup : ∀ a vs, SqT K H a vs → SqT K H' a vs
  code : ∀ c q, H c = some (LamX.CodeO c q) → H' c = some (LamX.CodeO c q)
mutual
theorem Rv.mono (t : TupKeep K H H') : ∀ {d : D} {v : V}, Rv K mg H d v → Rv K mg H' d v
  | .non, v, h => by rw [Rv] at h ⊢; exact h
  | .bl b, v, h => by rw [Rv] at h ⊢; exact h
  | .int i, v, h => by rw [Rv] at h ⊢; exact h
  | .str x, v, h => by rw [Rv] at h ⊢; exact h
  | .ref a, v, h => by rw [Rv] at h ⊢; exact h
  | .ty n, v, h => by rw [Rv] at h ⊢; exact h
  | .gl x, v, h => by rw [Rv] at h ⊢; exact h
  | .tup l, v, h => by
    rw [Rv] at h ⊢
    obtain ⟨a, vs, e, h1, h2, h3⟩ := h
    exact ⟨a, vs, e, t.tup a vs h1, Rvs.mono t h2, h3⟩
theorem Rvs.mono (t : TupKeep K H H') : ∀ {l : List D} {vs : List V}, Rvs K mg H l vs → Rvs K mg H' l vs
  | [], _, h => by rw [Rvs] at h ⊢; exact h
  | d :: r, _, h => by
    rw [Rvs] at h ⊢
    obtain ⟨v, ws, e, h1, h2⟩ := h
    exact ⟨v, ws, e, Rv.mono t h1, Rvs.mono t h2⟩
end
theorem rv_non : Rv K mg H .non .non := by rw [Rv]
theorem rv_bl {b : Bool} : Rv K mg H (.bl b) (.bl b) := by rw [Rv]
theorem rv_int {i : Int} : Rv K mg H (.int i) (.int i) := by rw [Rv]
theorem rv_str {x : Str} : Rv K mg H (.str x) (.str x) := by rw [Rv]
theorem rv_ref {a : Addr} : Rv K mg H (.ref a) (.ref a) := by rw [Rv]
theorem rv_ty {n : String} : Rv K mg H (.ty n) (.ty n) := by rw [Rv]
theorem rv_tup {l : List D} {a : Addr} {vs : List V} (h : SqT K H a vs) (r : Rvs K mg H l vs) (z : l.length ≤ sizeLine) : Rv K mg H (.tup l) (.ref a) := by
  rw [Rv]; exact ⟨a, vs, rfl, h, r, z⟩
theorem rv_non_inv {v : V} (h : Rv K mg H .non v) : v = .non := by rwa [Rv] at h
theorem rv_bl_inv {b : Bool} {v : V} (h : Rv K mg H (.bl b) v) : v = .bl b := by rwa [Rv] at h
theorem rv_int_inv {i : Int} {v : V} (h : Rv K mg H (.int i) v) : v = .int i := by rwa [Rv] at h
theorem rv_str_inv {x : Str} {v : V} (h : Rv K mg H (.str x) v) : v = .str x := by rwa [Rv] at h
theorem rv_ref_inv {a : Addr} {v : V} (h : Rv K mg H (.ref a) v) : v = .ref a := by rwa [Rv] at h
theorem rv_ty_inv {n : String} {v : V} (h : Rv K mg H (.ty n) v) : v = .ty n := by rwa [Rv] at h
theorem rv_gl_inv {x : Str} {v : V} (h : Rv K mg H (.gl x) v) : ∃ a, mg.g x = some (.ref a) ∧ v = .ref a := by rwa [Rv] at h
theorem rv_tup_inv {l : List D} {v : V} (h : Rv K mg H (.tup l) v) : ∃ a vs, v = .ref a ∧ SqT K H a vs ∧ Rvs K mg H l vs ∧ l.length ≤ sizeLine := by rwa [Rv] at h

/-- pairs of a dict -/
def Rk {κ : Type} (K : PySem.W.Frag) (mg : Mg) (H : Hp) : List (κ × D) → List (κ × V) → Prop := Paired fun p q => p.1 = q.1 ∧ Rv K mg H p.2 q.2
theorem Rk.mono {κ : Type} (t : TupKeep K H H') {l : List (κ × D)} {m : List (κ × V)} (h : Rk K mg H l m) : Rk K mg H' l m := Paired.mapP h fun _ _ z => ⟨z.1, z.2.mono t⟩

mutual
/-- the nested key of a datum -/
def nk : D → Option NestedKey
  | .non => some .none
  | .int i => some (.num i)
  | .str x => some (.text x)
  | .tup l => (nks l).map .tup
  | _ => none
def nks : List D → Option (List NestedKey)
  | [] => some []
  | d :: r => match nk d, nks r with
    | some k, some ks => some (k :: ks)
    | _, _ => none
end
/-- a dict whose keys are tuples, by its one object -/
def NestF (P : Program) (w : World) (a : Addr) (xs : List (NestedKey × Addr × Value)) (h : Heap) : Prop := ∃ o es ep, h.get? a = some o ∧ o.ExactDict ∧ o.data = .dict es ep ∧ es.toList = xs.map (entryOfKey (nestedKind P w)) ∧ (xs.map (·.1)).Nodup ∧ (a == sysModules) = false
def NestO (P : Program) (w : World) (a : Addr) (xs : List (NestedKey × Addr × Value)) : HO := .ext (NestF P w a xs)
/-- an entry -/
def RN (K : PySem.W.Frag) (mg : Mg) (H : Hp) (p : NestedKey × D × D) (x : NestedKey × Addr × Value) : Prop :=
  p.1 = x.1 ∧ nk p.2.1 = some p.1 ∧ p.1.depth ≤ 8 ∧ Rv K mg H p.2.1 (.ref x.2.1) ∧ ∃ v, RelV v x.2.2 ∧ Rv K mg H p.2.2 v
theorem RN.mono (t : TupKeep K H H') {p : NestedKey × D × D} {x : NestedKey × Addr × Value} (h : RN K mg H p x) : RN K mg H' p x :=
  ⟨h.1, h.2.1, h.2.2.1, h.2.2.2.1.mono t, let ⟨v, h1, h2⟩ := h.2.2.2.2; ⟨v, h1, h2.mono t⟩⟩

def RO (K : PySem.W.Frag) (mg : Mg) (H : Hp) (a : Addr) : DO → Prop
  | .lst l => ∃ vs, H a = some (.lst vs) ∧ Rvs K mg H l vs ∧ l.length ≤ sizeLine
  | .fl l => ∃ o vs, H a = some (.frz o (.lst vs)) ∧ Rvs K mg H l vs ∧ l.length ≤ sizeLine
  | .dk kvs => ∃ ks, H a = some (.dK ks) ∧ Rk K mg H kvs ks ∧ kvs.length ≤ sizeLine
  | .dn kvs => ∃ xs, H a = some (NestO mg.prog mg.w a xs) ∧ (∃ h, NestF mg.prog mg.w a xs h) ∧ Paired (RN K mg H) kvs xs ∧ kvs.length ≤ sizeLine
  | .tb q => LamX.TabS H a q
  | .dnl ob kvs => H a = some (.frz ob.1 (NestO mg.prog mg.w a ob.2)) ∧ (∃ h, NestF mg.prog mg.w a ob.2 h) ∧ Paired (RN K mg H) kvs ob.2 ∧ kvs.length ≤ sizeLine
/-- the store is held -/
def RG (K : PySem.W.Frag) (mg : Mg) (H : Hp) (G : Gp) : Prop := ∀ a o, G a = some o → RO K mg H a o
/-- what stands outside the store stays -/
def NoTb (o : HO) : Prop := ∀ ps, o ≠ .tbl ps
structure Fr (G G' : Gp) (H H' : Hp) : Prop where
  st : ∀ a o, H a = some o → G a = none → NoTb o → H' a = some o ∧ G' a = none
theorem Fr.at {G G' : Gp} {H H' : Hp} (f : Fr G G' H H') (a : Addr) (o : HO) (h : H a = some o) (g : G a = none) (n : NoTb o := by intro _ z; cases z) : H' a = some o ∧ G' a = none := f.st a o h g n
theorem Fr.refl (G : Gp) (H : Hp) : Fr G G H H := ⟨fun _ _ h g _ => ⟨h, g⟩⟩
theorem Fr.trans {G G1 G2 : Gp} (a : Fr G G1 H H1) (b : Fr G1 G2 H1 H2) : Fr G G2 H H2 := ⟨fun c o h g n => by
  obtain ⟨h1, g1⟩ := a.st c o h g n
  exact b.st c o h1 g1 n⟩
theorem nest_code {a : Addr} {xs : List (NestedKey × Addr × Value)} {P : Program} {w : World} {q : Str} (x : ∃ h, NestF P w a xs h) : NestO P w a xs ≠ LamX.CodeO a q := fun z => by
  unfold NestO LamX.CodeO at z
  have e := HO.ext.inj z
  obtain ⟨h, hx⟩ := x
  have e2 := congrFun e h
  have y := hx
  rw [e2] at y
  obtain ⟨o, es, ep, h1, _, h2, _⟩ := hx
  obtain ⟨oc, vs, t, g1, g2, _⟩ := y
  rw [h1] at g1
  cases g1
  rw [h2] at g2
  cases g2
theorem code_tup {c : Addr} {q : Str} {vs : List V} : LamX.CodeO c q ≠ .tup vs := fun z => by
  unfold LamX.CodeO at z
  cases z
theorem code_frz {c : Addr} {q : Str} {o : Obj} {u : HO} : LamX.CodeO c q ≠ .frz o u := fun z => by
  unfold LamX.CodeO at z
  cases z
theorem code_lst {c : Addr} {q : Str} {vs : List V} : LamX.CodeO c q ≠ .lst vs := fun z => by
  unfold LamX.CodeO at z
  cases z
theorem code_dK {c : Addr} {q : Str} {vs : List (Key × V)} : LamX.CodeO c q ≠ .dK vs := fun z => by
  unfold LamX.CodeO at z
  cases z
theorem RO.tup_no {a : Addr} {o : DO} {vs : List V} (h : RO K mg H a o) : H a ≠ some (.tup vs) ∧ (∀ ob, H a ≠ some (.frz ob (.tup vs))) ∧ ∀ q, H a ≠ some (LamX.CodeO a q) := by
  cases o with
  | lst l => obtain ⟨_, e, _⟩ := h; rw [e]; exact ⟨(fun z => by cases z), (fun _ z => by cases z), (fun _ z => code_lst (Option.some.inj z).symm)⟩
  | fl l => obtain ⟨_, _, e, _⟩ := h; rw [e]; exact ⟨(fun z => by cases z), (fun _ z => by cases z), (fun _ z => code_frz (Option.some.inj z).symm)⟩
  | dk l => obtain ⟨_, e, _⟩ := h; rw [e]; exact ⟨(fun z => by cases z), (fun _ z => by cases z), (fun _ z => code_dK (Option.some.inj z).symm)⟩
  | dn l => obtain ⟨_, e, x, _⟩ := h; rw [e]; exact ⟨(fun z => by cases z), (fun _ z => by cases z), (fun _ z => nest_code x (Option.some.inj z))⟩
  | tb q => obtain ⟨_, e, _⟩ := h; rw [e]; exact ⟨(fun z => by cases z), (fun _ z => by cases z), (fun _ z => LamX.codeO_ne _ (Option.some.inj z).symm)⟩
  | dnl _ l => obtain ⟨e, _⟩ := h; rw [e]; exact ⟨(fun z => by cases z), (fun _ z => by unfold NestO at z; cases z), (fun _ z => code_frz (Option.some.inj z).symm)⟩
theorem RG.notup {G : Gp} {a : Addr} {vs : List V} (h : RG K mg H G) (e : H a = some (.tup vs)) : G a = none := by
  cases q : G a with
  | none => rfl
  | some o => exact absurd e (h a o q).tup_no.1
theorem Fr.keep {G G' : Gp} (f : Fr G G' H H') (r : RG K mg H G) : TupKeep K H H' := ⟨fun a vs h => by
  rcases h with (h | ⟨o, h⟩) | h
  · exact .inl (.inl (f.at a _ h (r.notup h)).1)
  · have g : G a = none := by
      cases q : G a with
      | none => rfl
      | some u => exact absurd h ((r a u q).tup_no (vs := vs).2.1 o)
    exact .inl (.inr ⟨o, (f.at a _ h g).1⟩)
  · exact .inr h, fun c q h => by
  have g : G c = none := by
    cases e : G c with
    | none => rfl
    | some u => exact absurd h ((r c u e).tup_no (vs := []).2.2 q)
  exact (f.at c _ h g (fun ps => LamX.codeO_ne ps)).1⟩
theorem RG.fresh {G : Gp} {a : Addr} (r : RG K mg H G) (h : H a = none) : G a = none := by
  cases q : G a with
  | none => rfl
  | some o =>
    have z := r a o q
    cases o <;> simp only [RO] at z
    · obtain ⟨_, e, _⟩ := z; rw [h] at e; cases e
    · obtain ⟨_, _, e, _⟩ := z; rw [h] at e; cases e
    · obtain ⟨_, e, _⟩ := z; rw [h] at e; cases e
    · obtain ⟨_, e, _⟩ := z; rw [h] at e; cases e
    · obtain ⟨_, e, _⟩ := z; rw [h] at e; cases e
    · obtain ⟨e, _⟩ := z; rw [h] at e; cases e
theorem RO.mono {a : Addr} {o : DO} (t : TupKeep K H H') (e : H' a = H a) (h : RO K mg H a o) : RO K mg H' a o := by
  cases o with
  | lst l => obtain ⟨vs, q, r, z⟩ := h; exact ⟨vs, e.trans q, r.mono t, z⟩
  | fl l => obtain ⟨ob, vs, q, r, z⟩ := h; exact ⟨ob, vs, e.trans q, r.mono t, z⟩
  | dk l => obtain ⟨vs, q, r, z⟩ := h; exact ⟨vs, e.trans q, r.mono t, z⟩
  | dn l => obtain ⟨vs, q, x, r, z⟩ := h; exact ⟨vs, e.trans q, x, Paired.mapP r fun _ _ z => RN.mono t z, z⟩
  | tb q => obtain ⟨ps, q, r, z⟩ := h; exact ⟨ps, e.trans q, r, fun pos cv hc => by
      obtain ⟨c, e1, e2⟩ := z pos cv hc
      exact ⟨c, e1, t.code _ _ e2⟩⟩
  | dnl ob l => obtain ⟨q, x, r, z⟩ := h; exact ⟨e.trans q, x, Paired.mapP r fun _ _ z => RN.mono t z, z⟩
/-- a new object, not in the store -/
theorem keep_new {p : Addr} {o : HO} (np : H p = none) : TupKeep K H (upd H p o) := ⟨fun a vs h => by
  rcases h with (h | ⟨ob, h⟩) | h
  · exact .inl (.inl (by rw [upd_ne (ne_of_none h np)]; exact h))
  · exact .inl (.inr ⟨ob, by rw [upd_ne (ne_of_none h np)]; exact h⟩)
  · exact .inr h, fun c q h => by rw [upd_ne (ne_of_none h np)]; exact h⟩
theorem RG.new {G : Gp} {p : Addr} {o : HO} (r : RG K mg H G) (np : H p = none) : RG K mg (upd H p o) G := fun a u e => by
  have ne : a ≠ p := fun z => by subst z; rw [r.fresh np] at e; cases e
  exact (r a u e).mono (keep_new np) (upd_ne ne)
theorem Fr.new {G : Gp} {p : Addr} {o : HO} (np : H p = none) : Fr G G H (upd H p o) := ⟨fun a u e g _ => ⟨by rw [upd_ne (ne_of_none e np)]; exact e, g⟩⟩
/-- a new object, in the store -/
theorem RG.newS {G : Gp} {p : Addr} {o : HO} {d : DO} (r : RG K mg H G) (np : H p = none) (ro : RO K mg (upd H p o) p d) : RG K mg (upd H p o) (up G p d) := fun a u e => by
  by_cases h : a = p
  · subst h; rw [up_same] at e; cases e; exact ro
  · rw [up_ne h] at e; exact r.new np a u e
theorem Fr.newS {G : Gp} {p : Addr} {o : HO} {d : DO} (np : H p = none) : Fr G (up G p d) H (upd H p o) := ⟨fun a u e g _ => by
  have ne := ne_of_none e np
  exact ⟨by rw [upd_ne ne]; exact e, by rw [up_ne ne]; exact g⟩⟩
/-- an object of the store written -/
theorem keep_put {G : Gp} {p : Addr} {o : HO} {u : DO} (r : RG K mg H G) (e : G p = some u) : TupKeep K H (upd H p o) := ⟨fun a vs h => by
  rcases h with (h | ⟨ob, h⟩) | h
  · have ne : a ≠ p := fun z => by subst z; exact (r a u e).tup_no.1 h
    exact .inl (.inl (by rw [upd_ne ne]; exact h))
  · have ne : a ≠ p := fun z => by subst z; exact (r a u e).tup_no.2.1 ob h
    exact .inl (.inr ⟨ob, by rw [upd_ne ne]; exact h⟩)
  · exact .inr h, fun c q h => by
  have ne : c ≠ p := fun z => by subst z; exact (r c u e).tup_no (vs := []).2.2 q h
  rw [upd_ne ne]
  exact h⟩
theorem RG.put {G : Gp} {p : Addr} {o : HO} {u d : DO} (r : RG K mg H G) (e : G p = some u) (ro : RO K mg (upd H p o) p d) : RG K mg (upd H p o) (up G p d) := fun a x q => by
  by_cases h : a = p
  · subst h; rw [up_same] at q; cases q; exact ro
  · rw [up_ne h] at q; exact (r a x q).mono (keep_put r e) (upd_ne h)
theorem Fr.put {G : Gp} {p : Addr} {o : HO} {u d : DO} (e : G p = some u) : Fr G (up G p d) H (upd H p o) := ⟨fun a x q g _ => by
  have ne : a ≠ p := fun z => by subst z; rw [e] at g; cases g
  exact ⟨by rw [upd_ne ne]; exact q, by rw [up_ne ne]; exact g⟩⟩
end

/-! ### readings -/
abbrev Ev := List (Option D)
abbrev DK := D → Gp → Prop
abbrev TD := Ev → Gp → DK → Prop
abbrev TDT := Ev → Gp → (Bool → Gp → Prop) → Prop
abbrev TDA := Ev → Gp → (List D → Gp → Prop) → Prop
structure DEnds where
  nx : Ev → Gp → Prop
  rt : DK
  bk : Ev → Gp → Prop := fun _ _ => False
  ct : Ev → Gp → Prop := fun _ _ => False
  ex : Addr → D → Gp → Prop := fun _ _ _ => False
abbrev TDS := DEnds → Ev → Gp → Prop

/-- the slots hold the data -/
structure RSt (K : PySem.W.Frag) (mg : Mg) (H : Hp) (env : Ev) (σ : L2.St) : Prop where
  len : env.length = σ.length
  get : ∀ (i : Nat) (d : D), env[i]? = some (some d) → ∃ v, σ[i]? = some (some v) ∧ Rv K mg H d v
section
variable {K : PySem.W.Frag} {mg : Mg} {H H' : Hp}
theorem RSt.mono (t : TupKeep K H H') {env : Ev} {σ : L2.St} (r : RSt K mg H env σ) : RSt K mg H' env σ := ⟨r.len, fun i d e => by
  obtain ⟨v, h1, h2⟩ := r.get i d e
  exact ⟨v, h1, h2.mono t⟩⟩
theorem RSt.set {env : Ev} {σ : L2.St} {i : Nat} {d : D} {v : V} (r : RSt K mg H env σ) (h : Rv K mg H d v) : RSt K mg H (env.set i (some d)) (σ.set i (some v)) := ⟨by simpa using r.len, fun j x e => by
  by_cases hj : i = j
  · subst hj
    by_cases hl : i < env.length
    · rw [List.getElem?_set_self hl] at e
      cases e
      exact ⟨v, List.getElem?_set_self (by rw [← r.len]; exact hl), h⟩
    · rw [List.getElem?_eq_none (by simpa using hl)] at e; cases e
  · rw [List.getElem?_set_ne hj] at e
    obtain ⟨u, h1, h2⟩ := r.get j x e
    exact ⟨u, by rw [List.getElem?_set_ne hj]; exact h1, h2⟩⟩
end

section
variable (X : Cx)
def Ko (G : Gp) (H : Hp) (Q : DK) (Qv : VK) : Prop := ∀ d G' v H', Q d G' → Rv X.K X.m H' d v → RG X.K X.m H' G' → Fr G G' H H' → Qv v H'
def KoT (G : Gp) (H : Hp) (Q : Bool → Gp → Prop) (Qv : Bool → Hp → Prop) : Prop := ∀ b G' H', Q b G' → RG X.K X.m H' G' → Fr G G' H H' → Qv b H'
def KoA (G : Gp) (H : Hp) (Q : List D → Gp → Prop) (Qv : List V → Hp → Prop) : Prop := ∀ ds G' vs H', Q ds G' → Rvs X.K X.m H' ds vs → RG X.K X.m H' G' → Fr G G' H H' → Qv vs H'
/-- all that X takes of exceptions -/
def wpX (X : Cx) : WX := fun cls d σ H => ∀ u s', XE X (fun c e τ J => c = cls ∧ e = d ∧ τ = σ ∧ J = H) u s' → X.xe u s'
theorem takes_wpX (X : Cx) : Takes X (wpX X) := fun u s' ⟨a, B, sI, pins, σ, H, cls, d, e, I, nb, up, sky, na, os, ag, w⟩ => w u s' ⟨a, B, sI, pins, σ, H, cls, d, e, I, nb, up, sky, na, os, ag, rfl, rfl, rfl, rfl⟩
theorem wpX_of {X : Cx} {W : WX} (t : Takes X W) {cls : Value} {d : Option Addr} {σ : L2.St} {H : Hp} (w : W cls d σ H) : wpX X cls d σ H := fun u s' x => t u s' (by
  obtain ⟨a, B, sI, pins, τ, J, c, e, e0, I, nb, up, sky, na, os, ag, h1, h2, h3, h4⟩ := x
  subst h1; subst h2; subst h3; subst h4
  exact ⟨a, B, sI, pins, _, _, _, _, e0, I, nb, up, sky, na, os, ag, w⟩)
/-- exceptions of the program: the class at C, the dict at d with the thing -/
def KoX (G : Gp) (H : Hp) (Q : Addr → D → Gp → Prop) (W : Addr → Addr → Hp → Prop) : Prop := ∀ C x G' v d H', Q C x G' → Rv X.K X.m H' x v → RG X.K X.m H' G' → Fr G G' H H' → H' d = some (.xd [("thing", v)]) → G' d = none → W C d H'
structure KoS (G : Gp) (H : Hp) (DD : DEnds) (D : Ends) : Prop where
  nx : ∀ env G' σ H', DD.nx env G' → RSt X.K X.m H' env σ → RG X.K X.m H' G' → Fr G G' H H' → D.nx σ H'
  rt : Ko X G H DD.rt D.rt
  bk : ∀ env G' σ H', DD.bk env G' → RSt X.K X.m H' env σ → RG X.K X.m H' G' → Fr G G' H H' → D.bk σ H'
  ct : ∀ env G' σ H', DD.ct env G' → RSt X.K X.m H' env σ → RG X.K X.m H' G' → Fr G G' H H' → D.ct σ H'
  ex : KoX X G H DD.ex fun C d H' => ∀ σ, wpX X (.ref C) (some d) σ H'
/-- a data reading as a reading of the layer -/
def lf (t : TD) : TE := fun σ H Qv => ∃ env G Q, RSt X.K X.m H env σ ∧ RG X.K X.m H G ∧ t env G Q ∧ Ko X G H Q Qv
def lfT (t : TDT) : TT := fun σ H Qv => ∃ env G Q, RSt X.K X.m H env σ ∧ RG X.K X.m H G ∧ t env G Q ∧ KoT X G H Q Qv
def lfA (t : TDA) : TA := fun σ H Qv => ∃ env G Q, RSt X.K X.m H env σ ∧ RG X.K X.m H G ∧ t env G Q ∧ KoA X G H Q Qv
def lfS (t : TDS) : TS := fun D σ H => ∃ env G DD, RSt X.K X.m H env σ ∧ RG X.K X.m H G ∧ t DD env G ∧ KoS X G H DD D
abbrev DE (e : Expr) (t : TD) : Prop := PE X e (lf X t)
abbrev DT (e : Expr) (t : TDT) : Prop := PT X e (lfT X t)
abbrev DW (e : Expr) (t : TDT) : Prop := PW X e (lfT X t)
abbrev DA (es : List Expr) (t : TDA) : Prop := PA X es (lfA X t)
abbrev DS (st : Stmt) (t : TDS) : Prop := PS X st (lfS X t)
abbrev DSs (st : List Stmt) (t : TDS) : Prop := PSs X st (lfS X t)
end
section
variable {X : Cx} {G G' : Gp} {H H' : Hp}
theorem Ko.mono {Q : DK} {Qv : VK} (k : Ko X G H Q Qv) (f : Fr G G' H H') : Ko X G' H' Q Qv := fun d g v h q r rg fr => k d g v h q r rg (f.trans fr)
theorem KoT.mono {Q : Bool → Gp → Prop} {Qv : Bool → Hp → Prop} (k : KoT X G H Q Qv) (f : Fr G G' H H') : KoT X G' H' Q Qv := fun d g h q rg fr => k d g h q rg (f.trans fr)
theorem KoA.mono {Q : List D → Gp → Prop} {Qv : List V → Hp → Prop} (k : KoA X G H Q Qv) (f : Fr G G' H H') : KoA X G' H' Q Qv := fun d g v h q r rg fr => k d g v h q r rg (f.trans fr)
theorem KoX.mono {Q : Addr → D → Gp → Prop} {W : Addr → Addr → Hp → Prop} (k : KoX X G H Q W) (f : Fr G G' H H') : KoX X G' H' Q W := fun C x g v d h q r rg fr e1 e2 => k C x g v d h q r rg (f.trans fr) e1 e2
theorem KoS.mono {DD : DEnds} {D : Ends} (k : KoS X G H DD D) (f : Fr G G' H H') : KoS X G' H' DD D :=
  ⟨fun e g s h q r rg fr => k.nx e g s h q r rg (f.trans fr), k.rt.mono f, fun e g s h q r rg fr => k.bk e g s h q r rg (f.trans fr), fun e g s h q r rg fr => k.ct e g s h q r rg (f.trans fr), k.ex.mono f⟩
theorem PE.mono {e : Expr} {t t' : TE} (h : PE X e t) (w : ∀ σ H Q, t' σ H Q → t σ H Q) : PE X e t' := ⟨fun pins s σ H Q I q => h.run pins s σ H Q I (w _ _ _ q)⟩
theorem PT.mono {e : Expr} {t t' : TT} (h : PT X e t) (w : ∀ σ H Q, t' σ H Q → t σ H Q) : PT X e t' := ⟨fun pins s σ H Q I q => h.run pins s σ H Q I (w _ _ _ q)⟩
theorem PW.mono {e : Expr} {t t' : TT} (h : PW X e t) (w : ∀ σ H Q, t' σ H Q → t σ H Q) : PW X e t' := ⟨fun wh pins s σ H Q I q => h.run wh pins s σ H Q I (w _ _ _ q)⟩
theorem PA.mono {e : List Expr} {t t' : TA} (h : PA X e t) (w : ∀ σ H Q, t' σ H Q → t σ H Q) : PA X e t' := ⟨fun p pins s σ H Q I q => h.run p pins s σ H Q I (w _ _ _ q)⟩
theorem PS.mono {e : Stmt} {t t' : TS} (h : PS X e t) (w : ∀ D σ H, t' D σ H → t D σ H) : PS X e t' := ⟨fun pins s σ H Q I q => h.run pins s σ H Q I (w _ _ _ q)⟩
theorem PSs.mono {e : List Stmt} {t t' : TS} (h : PSs X e t) (w : ∀ D σ H, t' D σ H → t D σ H) : PSs X e t' := ⟨fun pins s σ H Q I q => h.run pins s σ H Q I (w _ _ _ q)⟩
theorem de_of {e : Expr} {te : TE} {t : TD} (h : PE X e te) (w : ∀ σ H env G Q Qv, RSt X.K X.m H env σ → RG X.K X.m H G → t env G Q → Ko X G H Q Qv → te σ H Qv) : DE X e t :=
  PE.mono h fun σ H Qv ⟨env, G, Q, rs, rg, ht, k⟩ => w σ H env G Q Qv rs rg ht k
theorem dt_of {e : Expr} {te : TT} {t : TDT} (h : PT X e te) (w : ∀ σ H env G Q Qv, RSt X.K X.m H env σ → RG X.K X.m H G → t env G Q → KoT X G H Q Qv → te σ H Qv) : DT X e t :=
  PT.mono h fun σ H Qv ⟨env, G, Q, rs, rg, ht, k⟩ => w σ H env G Q Qv rs rg ht k
theorem dw_of {e : Expr} {te : TT} {t : TDT} (h : PW X e te) (w : ∀ σ H env G Q Qv, RSt X.K X.m H env σ → RG X.K X.m H G → t env G Q → KoT X G H Q Qv → te σ H Qv) : DW X e t :=
  PW.mono h fun σ H Qv ⟨env, G, Q, rs, rg, ht, k⟩ => w σ H env G Q Qv rs rg ht k
theorem da_of {e : List Expr} {te : TA} {t : TDA} (h : PA X e te) (w : ∀ σ H env G Q Qv, RSt X.K X.m H env σ → RG X.K X.m H G → t env G Q → KoA X G H Q Qv → te σ H Qv) : DA X e t :=
  PA.mono h fun σ H Qv ⟨env, G, Q, rs, rg, ht, k⟩ => w σ H env G Q Qv rs rg ht k
theorem ds_of {e : Stmt} {te : TS} {t : TDS} (h : PS X e te) (w : ∀ D σ H env G DD, RSt X.K X.m H env σ → RG X.K X.m H G → t DD env G → KoS X G H DD D → te D σ H) : DS X e t :=
  PS.mono h fun D σ H ⟨env, G, DD, rs, rg, ht, k⟩ => w D σ H env G DD rs rg ht k
theorem dss_of {e : List Stmt} {te : TS} {t : TDS} (h : PSs X e te) (w : ∀ D σ H env G DD, RSt X.K X.m H env σ → RG X.K X.m H G → t DD env G → KoS X G H DD D → te D σ H) : DSs X e t :=
  PSs.mono h fun D σ H ⟨env, G, DD, rs, rg, ht, k⟩ => w D σ H env G DD rs rg ht k
end

/-! ### names, constants -/
section
variable {X : Cx}
def dVar (i : Nat) : TD := fun env G Q => ∃ d, env[i]? = some (some d) ∧ Q d G
def dC (d : D) : TD := fun _ G Q => Q d G
theorem de_var {i : Nat} {x : Str} {pos : Pos} (hN : X.N[i]? = some x := by rfl) (hv : Vis X.env.scope x := by first | exact Or.inl rfl | exact Or.inr (Or.inl rfl) | exact Or.inr (Or.inr rfl)) (hd : (x == ("__debug__" : Str)) = false := by decide)
    (hcd : (x == ("__classdict__" : Str)) = false := by decide) : DE X (.Name x pos) (dVar i) :=
  de_of (pe_var hN hv hd hcd) fun σ H env G Q Qv rs rg ⟨d, e, q⟩ k => by
    obtain ⟨v, h1, h2⟩ := rs.get i d e
    exact ⟨v, h1, k d G v H q h2 rg (Fr.refl _ _)⟩
theorem de_int {i j pos} : DE X (.Constant (.int i) j pos) (dC (.int i)) := de_of pe_int fun σ H env G Q Qv rs rg q k => k _ G _ H q rv_int rg (Fr.refl _ _)
theorem de_bl {b j pos} : DE X (.Constant (.bool b) j pos) (dC (.bl b)) := de_of pe_bl fun σ H env G Q Qv rs rg q k => k _ G _ H q rv_bl rg (Fr.refl _ _)
theorem de_non {j pos} : DE X (.Constant .none j pos) (dC .non) := de_of pe_non fun σ H env G Q Qv rs rg q k => k _ G _ H q rv_non rg (Fr.refl _ _)
theorem de_str {x j pos} : DE X (.Constant (.str x) j pos) (dC (.str x)) := de_of pe_str fun σ H env G Q Qv rs rg q k => k _ G _ H q rv_str rg (Fr.refl _ _)
/-- a def's, a class's name as a value -/
theorem de_gl {x : Str} {a : Addr} {pos : Pos} (hg : Gl X x) (hm : X.mg x = some (.ref a)) (hd : (x == ("__debug__" : Str)) = false := by decide) : DE X (.Name x pos) (dC (.gl x)) :=
  de_of (pe_glob hg hm (v := V.ref a) rfl hd) fun σ H env G Q Qv rs rg q k => k _ G _ H q (by rw [Rv]; exact ⟨a, hm, rfl⟩) rg (Fr.refl _ _)
theorem de_gint {x : Str} {i : Int} {t : Tok} {pos : Pos} (hg : Gl X x) (hm : X.mg x = some (.int i t)) (hd : (x == ("__debug__" : Str)) = false := by decide) : DE X (.Name x pos) (dC (.int i)) :=
  de_of (pe_glob hg hm (v := V.int i) ⟨t, rfl⟩ hd) fun σ H env G Q Qv rs rg q k => k _ G _ H q rv_int rg (Fr.refl _ _)
theorem de_gstr {x z : Str} {t : Tok} {pos : Pos} (hg : Gl X x) (hm : X.mg x = some (.str z t)) (hd : (x == ("__debug__" : Str)) = false := by decide) : DE X (.Name x pos) (dC (.str z)) :=
  de_of (pe_glob hg hm (v := V.str z) ⟨t, rfl⟩ hd) fun σ H env G Q Qv rs rg q k => k _ G _ H q rv_str rg (Fr.refl _ _)
/-- a built-in class as a value -/
theorem de_ty {x : Str} {n : String} {pos : Pos} (hg : Gl X x) (hm : X.mg x = none) (hv : bootBuiltins x = some (.type n)) (hn : x ≠ "__name__" := by decide) (hd : (x == ("__debug__" : Str)) = false := by decide) : DE X (.Name x pos) (dC (.ty n)) :=
  de_of (pe_bltn hg hm hv (v := V.ty n) rfl hn hd) fun σ H env G Q Qv rs rg q k => k _ G _ H q rv_ty rg (Fr.refl _ _)
end

/-! ### operators -/
abbrev RD2 := D → D → Gp → DK → Prop
section
variable {X : Cx} {a b c : Expr} {ta tb tc : TD} {pos : Pos}
def dBin (od : RD2) (ta tb : TD) : TD := fun env G Q => ta env G fun x G1 => tb env G1 fun y G2 => od x y G2 Q
/-- an operator's data rule is sound for a rule of the layer -/
def OpS (X : Cx) (od : RD2) (r : R2) : Prop := ∀ x y G Q v u H Qv, od x y G Q → Rv X.K X.m H x v → Rv X.K X.m H y u → RG X.K X.m H G → Ko X G H Q Qv → r v u H Qv
theorem bin_lf {od : RD2} {r : R2} (hs : OpS X od r) {σ : L2.St} {H : Hp} {env : Ev} {G : Gp} {Q : DK} {Qv : VK} (rs : RSt X.K X.m H env σ) (rg : RG X.K X.m H G) (h : dBin od ta tb env G Q) (k : Ko X G H Q Qv) : tOp r (lf X ta) (lf X tb) σ H Qv :=
  ⟨env, G, _, rs, rg, h, fun x G1 v H1 q rv rg1 f1 => ⟨env, G1, _, rs.mono (f1.keep rg), rg1, q, fun y G2 u H2 q2 ru rg2 f2 =>
    hs x y G2 Q v u H2 Qv q2 (rv.mono (f2.keep rg1)) ru rg2 (k.mono (f1.trans f2))⟩⟩
theorem de_bin {op : Operator} {od : RD2} {r : R2} (ho : OpR X (binaryOp op) r) (hs : OpS X od r) (ha : DE X a ta) (hb : DE X b tb) : DE X (.BinOp a op b pos) (dBin od ta tb) :=
  de_of (pe_op ho ha hb) fun σ H env G Q Qv rs rg h k => bin_lf hs rs rg h k
theorem de_cmp {op : CmpOp} {od : RD2} {r : R2} (ho : OpR X (compareOp op) r) (hs : OpS X od r) (ha : DE X a ta) (hb : DE X b tb) (hm : behindInMarks op b = false) : DE X (.Compare a [op] [b] pos) (dBin od ta tb) :=
  de_of (pe_cmpR ho ha hb hm) fun σ H env G Q Qv rs rg h k => bin_lf hs rs rg h k
def dTest (t : TD) : TDT := fun env G Q => t env G fun d G1 => ∃ b, d = .bl b ∧ Q b G1
theorem ko_test {G : Gp} {H : Hp} {Q : Bool → Gp → Prop} {Qv : Bool → Hp → Prop} (k : KoT X G H Q Qv) : Ko X G H (fun d G1 => ∃ b, d = .bl b ∧ Q b G1) (fun x H' => ∃ b, x = .bl b ∧ Qv b H') := fun d G' v H' ⟨b, e, q⟩ r rg f => by
  subst e
  exact ⟨b, rv_bl_inv r, k b G' H' q rg f⟩
theorem dt_cmp {op : CmpOp} {od : RD2} {r : R2} (ho : OpR X (compareOp op) r) (hs : OpS X od r) (ha : DE X a ta) (hb : DE X b tb) (hm : behindInMarks op b = false) : DT X (.Compare a [op] [b] pos) (dTest (dBin od ta tb)) :=
  dt_of (pt_cmpR ho ha hb hm) fun σ H env G Q Qv rs rg h k => bin_lf hs rs rg h (ko_test k)
theorem dt_val {e : Expr} {t : TD} (h : DE X e t) (he : ∀ whole, isTrue e X.env whole = (do let v ← whole; standAt e.pos; holding [v] (truthy v)) := by intro _; rfl) : DT X e (dTest t) :=
  dt_of (pt_val h he) fun σ H env G Q Qv rs rg ht k => ⟨env, G, _, rs, rg, ht, ko_test k⟩
/-- a < b < c -/
def dChain (od od' : RD2) (ta tb tc : TD) : TD := fun env G Q => ta env G fun x G1 => tb env G1 fun y G2 => od x y G2 fun z G3 => ∃ b, z = .bl b ∧ if b = true then tc env G3 fun w G4 => od' y w G4 Q else Q (.bl false) G3
end
end DL
end
section
set_option Elab.async false
set_option linter.all false
set_option maxRecDepth 100000
set_option maxHeartbeats 4000000
/-! Operators over data. -/
namespace DL
open PySem PySem.Spec PyProof.Rows L2

mutual
def D.toP : D → PyData
  | .non => .none
  | .bl b => .bool b
  | .int i => .int i
  | .str x => .str x
  | .tup l => .tuple (toPs l)
  | .ref _ => .dict []
  | .gl _ => .dict []
  | .ty _ => .dict []
def toPs : List D → List PyData
  | [] => []
  | d :: r => d.toP :: toPs r
end
theorem toPs_map : ∀ l : List D, toPs l = l.map D.toP
  | [] => by rw [toPs]; rfl
  | d :: r => by rw [toPs, toPs_map r]; rfl
/-- data without addresses, at most so deep -/
def Okd : Nat → D → Prop
  | _, .non => True
  | _, .bl _ => True
  | _, .int _ => True
  | _, .str _ => True
  | 0, .tup _ => False
  | n + 1, .tup l => ∀ d ∈ l, Okd n d
  | _, _ => False
theorem okd_tup {n : Nat} {l : List D} : Okd (n + 1) (.tup l) ↔ ∀ d ∈ l, Okd n d := Iff.rfl
theorem okd_str {n : Nat} {x : Str} : Okd n (.str x) := by cases n <;> exact True.intro
theorem okd_int {n : Nat} {x : Int} : Okd n (.int x) := by cases n <;> exact True.intro
theorem okd_bl {n : Nat} {x : Bool} : Okd n (.bl x) := by cases n <;> exact True.intro
theorem okd_non {n : Nat} : Okd n .non := by cases n <;> exact True.intro
theorem Okd.succ : ∀ {n : Nat} {d : D}, Okd n d → Okd (n + 1) d
  | n, .non, _ => okd_non
  | n, .bl _, _ => okd_bl
  | n, .int _, _ => okd_int
  | n, .str _, _ => okd_str
  | 0, .tup _, h => h.elim
  | n + 1, .tup l, h => fun d hd => Okd.succ (h d hd)
  | 0, .ref _, h => h.elim
  | n + 1, .ref _, h => h.elim
  | 0, .gl _, h => h.elim
  | n + 1, .gl _, h => h.elim
  | 0, .ty _, h => h.elim
  | n + 1, .ty _, h => h.elim
theorem okd_plain : ∀ (n : Nat) (d : D), Okd n d → d.toP.plain = true ∧ d.toP.depth ≤ n
  | n, .non, _ => by rw [D.toP]; exact ⟨rfl, Nat.zero_le _⟩
  | n, .bl _, _ => by rw [D.toP]; exact ⟨rfl, Nat.zero_le _⟩
  | n, .int _, _ => by rw [D.toP]; exact ⟨rfl, Nat.zero_le _⟩
  | n, .str _, _ => by rw [D.toP]; exact ⟨rfl, Nat.zero_le _⟩
  | 0, .tup _, h => h.elim
  | n + 1, .tup l, h => by
    rw [D.toP, toPs_map]
    have a : ∀ l : List D, (∀ d ∈ l, Okd n d) → PyData.plainAll (l.map D.toP) = true ∧ PyData.depthAll (l.map D.toP) ≤ n := by
      intro l
      induction l with
      | nil => intro _; exact ⟨rfl, Nat.zero_le _⟩
      | cons d r ih =>
        intro h
        obtain ⟨h1, h2⟩ := okd_plain n d (h d List.mem_cons_self)
        obtain ⟨h3, h4⟩ := ih fun e he => h e (List.mem_cons_of_mem _ he)
        rw [List.map_cons, PyData.plainAll, PyData.depthAll, h1, h3]
        exact ⟨rfl, Nat.max_le.mpr ⟨h2, h4⟩⟩
    obtain ⟨h1, h2⟩ := a l h
    rw [PyData.plain, PyData.depth]
    exact ⟨h1, Nat.succ_le_succ h2⟩
  | 0, .ref _, h => h.elim
  | n + 1, .ref _, h => h.elim
  | 0, .gl _, h => h.elim
  | n + 1, .gl _, h => h.elim
  | 0, .ty _, h => h.elim
  | n + 1, .ty _, h => h.elim

section
variable {K : PySem.W.Frag} {mg : Mg} {H : Hp}
theorem rv_dp : ∀ (n : Nat) (d : D) (v : V), Okd n d → Rv K mg H d v → Dp K H v d.toP
  | n, .non, v, _, h => by rw [rv_non_inv h, D.toP]; exact .non
  | n, .bl b, v, _, h => by rw [rv_bl_inv h, D.toP]; exact .bl b
  | n, .int b, v, _, h => by rw [rv_int_inv h, D.toP]; exact .int b
  | n, .str b, v, _, h => by rw [rv_str_inv h, D.toP]; exact .str b
  | 0, .tup _, v, o, _ => o.elim
  | n + 1, .tup l, v, o, h => by
    obtain ⟨a, vs, rfl, h1, h2, _⟩ := rv_tup_inv h
    rw [D.toP, toPs_map]
    refine .tup h1 ?_
    have go : ∀ (l : List D) (vs : List V), (∀ d ∈ l, Okd n d) → Rvs K mg H l vs → DpAll K H vs (l.map D.toP) := by
      intro l
      induction l with
      | nil => intro vs _ r; rw [rvs_nil_inv r]; exact .nil
      | cons d r ih =>
        intro vs ho hr
        obtain ⟨w, ws, rfl, r1, r2⟩ := rvs_cons_inv hr
        exact .cons (rv_dp n d w (ho d List.mem_cons_self) r1) (ih ws (fun e he => ho e (List.mem_cons_of_mem _ he)) r2)
    exact go l vs o h2
  | 0, .ref _, v, o, _ => o.elim
  | n + 1, .ref _, v, o, _ => o.elim
  | 0, .gl _, v, o, _ => o.elim
  | n + 1, .gl _, v, o, _ => o.elim
  | 0, .ty _, v, o, _ => o.elim
  | n + 1, .ty _, v, o, _ => o.elim
theorem rvs_dp {n : Nat} : ∀ (l : List D) (vs : List V), (∀ d ∈ l, Okd n d) → Rvs K mg H l vs → DpAll K H vs (l.map D.toP)
  | [], vs, _, r => by rw [rvs_nil_inv r]; exact .nil
  | d :: r, vs, ho, hr => by
    obtain ⟨w, ws, rfl, r1, r2⟩ := rvs_cons_inv hr
    exact .cons (rv_dp n d w (ho d List.mem_cons_self) r1) (rvs_dp r ws (fun e he => ho e (List.mem_cons_of_mem _ he)) r2)
theorem okds_plain {n : Nat} {l : List D} (h : ∀ d ∈ l, Okd n d) : PyData.plainAll (l.map D.toP) = true ∧ PyData.depthAll (l.map D.toP) ≤ n := by
  have q := okd_plain (n + 1) (.tup l) h
  rw [D.toP, toPs_map, PyData.plain, PyData.depth] at q
  exact ⟨q.1, Nat.le_of_succ_le_succ q.2⟩
end

/-- a list in the store -/
def lstAt (G : Gp) (a : Addr) : Option (List D) := match G a with
  | some (.lst l) => some l
  | some (.fl l) => some l
  | _ => none
theorem lstAt_lst {G : Gp} {a : Addr} {l : List D} (h : G a = some (.lst l)) : lstAt G a = some l := by unfold lstAt; rw [h]
theorem lstAt_fl {G : Gp} {a : Addr} {l : List D} (h : G a = some (.fl l)) : lstAt G a = some l := by unfold lstAt; rw [h]
section
variable {K : PySem.W.Frag} {mg : Mg} {H : Hp} {G : Gp}
theorem RG.lst {a : Addr} {l : List D} (r : RG K mg H G) (h : lstAt G a = some l) : ∃ vs, SqL K H a vs ∧ Rvs K mg H l vs ∧ l.length ≤ sizeLine := by
  unfold lstAt at h
  cases q : G a with
  | none => rw [q] at h; cases h
  | some o =>
    rw [q] at h
    cases o with
    | lst l' =>
      cases h
      obtain ⟨vs, e, h1, h2⟩ := r a _ q
      exact ⟨vs, .inl (.inl e), h1, h2⟩
    | fl l' =>
      cases h
      obtain ⟨ob, vs, e, h1, h2⟩ := r a _ q
      exact ⟨vs, .inl (.inr ⟨ob, e⟩), h1, h2⟩
    | dk _ => cases h
    | dn _ => cases h
    | tb _ => cases h
    | dnl _ _ => cases h
end

/-- what == looks at: a datum, or a list of data -/
inductive Seen (G : Gp) : D → PyData → Prop where
  | dat {d : D} (h : Okd 8 d) : Seen G d d.toP
  | lst {a : Addr} {l : List D} (e : lstAt G a = some l) (h : ∀ d ∈ l, Okd 8 d) : Seen G (.ref a) (.list (l.map D.toP))
section
variable {K : PySem.W.Frag} {mg : Mg} {H : Hp} {G : Gp}
theorem Seen.dp {d : D} {p : PyData} {v : V} (h : Seen G d p) (rg : RG K mg H G) (r : Rv K mg H d v) : Dp K H v p ∧ p.plain = true ∧ p.depth ≤ 9 := by
  cases h with
  | dat o => exact ⟨rv_dp 8 _ _ o r, (okd_plain 8 _ o).1, Nat.le_succ_of_le (okd_plain 8 _ o).2⟩
  | lst e o =>
    obtain ⟨vs, h1, h2, _⟩ := rg.lst e
    rw [rv_ref_inv r]
    obtain ⟨q1, q2⟩ := okds_plain o
    exact ⟨.lst h1 (rvs_dp _ _ o h2), by rw [PyData.plain]; exact q1, by rw [PyData.depth]; exact Nat.succ_le_succ q2⟩
end

/-! ### == and != -/
section
variable {X : Cx}
def rEqP (K : PySem.W.Frag) : R2 := fun x y H Q => ∃ d e, Dp K H x d ∧ Dp K H y e ∧ d.plain = true ∧ e.plain = true ∧ d.depth ≤ 60 ∧ Q (.bl (PyData.eqv d e)) H
def rNeP (K : PySem.W.Frag) : R2 := fun x y H Q => ∃ d e, Dp K H x d ∧ Dp K H y e ∧ d.plain = true ∧ e.plain = true ∧ d.depth ≤ 60 ∧ Q (.bl (!PyData.eqv d e)) H
theorem min_room {a b u : Nat} (h : a ≤ 60) (hu : u + 64 < cLine) : u + min a b < cLine := by
  have := Nat.min_le_left a b
  omega
theorem op_eqP (hu : X.A.units + 64 < cLine) : OpR X (compareOp .Eq) (rEqP X.K) := by
  intro pins s σ H x y v u Q I rx ry h
  obtain ⟨d, e, hd, he, p1, p2, dd, q⟩ := h
  obtain ⟨as, r1⟩ := Dp.reads I d x v hd rx
  obtain ⟨bs, r2⟩ := Dp.reads I e y u he ry
  exact PySem.SeqAt.eq_plain r1 r2 p1 p2 (min_room dd hu) ⟨.bl _, H, I, rfl, q⟩
theorem op_neP (hu : X.A.units + 64 < cLine) : OpR X (compareOp .NotEq) (rNeP X.K) := by
  intro pins s σ H x y v u Q I rx ry h
  obtain ⟨d, e, hd, he, p1, p2, dd, q⟩ := h
  obtain ⟨as, r1⟩ := Dp.reads I d x v hd rx
  obtain ⟨bs, r2⟩ := Dp.reads I e y u he ry
  exact PySem.SeqAt.ne_plain r1 r2 p1 p2 (min_room dd hu) ⟨.bl _, H, I, rfl, q⟩
def oEq : RD2 := fun x y G Q => ∃ p q, Seen G x p ∧ Seen G y q ∧ Q (.bl (PyData.eqv p q)) G
def oNe : RD2 := fun x y G Q => ∃ p q, Seen G x p ∧ Seen G y q ∧ Q (.bl (!PyData.eqv p q)) G
theorem oEq_s : OpS X oEq (rEqP X.K) := fun x y G Q v u H Qv ⟨p, q, h1, h2, hq⟩ rx ry rg k => by
  obtain ⟨a1, a2, a3⟩ := h1.dp rg rx
  obtain ⟨b1, b2, b3⟩ := h2.dp rg ry
  exact ⟨p, q, a1, b1, a2, b2, by omega, k _ G _ H hq rv_bl rg (Fr.refl _ _)⟩
theorem oNe_s : OpS X oNe (rNeP X.K) := fun x y G Q v u H Qv ⟨p, q, h1, h2, hq⟩ rx ry rg k => by
  obtain ⟨a1, a2, a3⟩ := h1.dp rg rx
  obtain ⟨b1, b2, b3⟩ := h2.dp rg ry
  exact ⟨p, q, a1, b1, a2, b2, by omega, k _ G _ H hq rv_bl rg (Fr.refl _ _)⟩
end

/-! ### arithmetic -/
section
variable {X : Cx}
def oI (C : Int → Int → Prop) (g : Int → Int → D) : RD2 := fun x y G Q => ∃ i j, x = .int i ∧ y = .int j ∧ C i j ∧ Q (g i j) G
theorem oI_s {C : Int → Int → Prop} {g : Int → Int → Int} : OpS X (oI C fun i j => .int (g i j)) (rI C fun i j => .int (g i j)) := fun x y G Q v u H Qv ⟨i, j, e1, e2, c, q⟩ rx ry rg k => by
  subst e1; subst e2
  exact ⟨i, j, rv_int_inv rx, rv_int_inv ry, c, k _ G _ H q rv_int rg (Fr.refl _ _)⟩
def oI0 (g : Int → Int → D) : RD2 := fun x y G Q => ∃ i j, x = .int i ∧ y = .int j ∧ Q (g i j) G
theorem oI0_s {g : Int → Int → Int} : OpS X (oI0 fun i j => .int (g i j)) (rI0 fun i j => .int (g i j)) := fun x y G Q v u H Qv ⟨i, j, e1, e2, q⟩ rx ry rg k => by
  subst e1; subst e2
  exact ⟨i, j, rv_int_inv rx, rv_int_inv ry, k _ G _ H q rv_int rg (Fr.refl _ _)⟩
theorem oI0_b {g : Int → Int → Bool} : OpS X (oI0 fun i j => .bl (g i j)) (rI0 fun i j => .bl (g i j)) := fun x y G Q v u H Qv ⟨i, j, e1, e2, q⟩ rx ry rg k => by
  subst e1; subst e2
  exact ⟨i, j, rv_int_inv rx, rv_int_inv ry, k _ G _ H q rv_bl rg (Fr.refl _ _)⟩
theorem OpS.or {od od' : RD2} {r r' : R2} (h : OpS X od r) (h' : OpS X od' r') : OpS X (fun x y G Q => od x y G Q ∨ od' x y G Q) (fun x y H Q => r x y H Q ∨ r' x y H Q) := fun x y G Q v u H Qv z rx ry rg k =>
  z.elim (fun z => .inl (h x y G Q v u H Qv z rx ry rg k)) fun z => .inr (h' x y G Q v u H Qv z rx ry rg k)

/-! + : ints, texts, tuples, lists -/
def oAddI : RD2 := oI0 fun i j => .int (i + j)
def oAddS : RD2 := fun x y G Q => ∃ i j, x = .str i ∧ y = .str j ∧ i.length + j.length ≤ sizeLine ∧ Q (.str (i ++ j)) G
def oAddT : RD2 := fun x y G Q => ∃ l m, x = .tup l ∧ y = .tup m ∧ l.length + m.length ≤ sizeLine ∧ Q (.tup (l ++ m)) G
def oAddL : RD2 := fun x y G Q => ∃ a b l m, x = .ref a ∧ y = .ref b ∧ G a = some (.lst l) ∧ G b = some (.lst m) ∧ l.length + m.length ≤ sizeLine ∧ ∀ p, G p = none → Q (.ref p) (up G p (.lst (l ++ m)))
def oAdd : RD2 := fun x y G Q => oAddI x y G Q ∨ oAddS x y G Q ∨ oAddT x y G Q ∨ oAddL x y G Q
def rAddS : R2 := fun x y H Q => ∃ i j, x = .str i ∧ y = .str j ∧ i.length + j.length ≤ sizeLine ∧ Q (.str (i ++ j)) H
theorem oAddS_s : OpS X oAddS rAddS := fun x y G Q v u H Qv ⟨i, j, e1, e2, z, q⟩ rx ry rg k => by
  subst e1; subst e2
  exact ⟨i, j, rv_str_inv rx, rv_str_inv ry, z, k _ G _ H q rv_str rg (Fr.refl _ _)⟩
theorem oAddT_s : OpS X oAddT (rCatA X.K) := fun x y G Q v u H Qv ⟨l, m, e1, e2, z, q⟩ rx ry rg k => by
  subst e1; subst e2
  obtain ⟨a, vs, rfl, h1, h2, h3⟩ := rv_tup_inv rx
  obtain ⟨b, ws, rfl, g1, g2, g3⟩ := rv_tup_inv ry
  refine ⟨a, b, vs, ws, rfl, rfl, h1, g1, by rw [← h2.length, ← g2.length]; exact z, fun e => ?_, fun _ e => ?_, fun _ _ p np => ?_⟩
  · subst e
    have el : l = [] := by
      have := h2.length
      cases l with
      | nil => rfl
      | cons _ _ => simp at this
    subst el
    exact k _ G _ H (by simpa using q) (rv_tup g1 g2 g3) rg (Fr.refl _ _)
  · subst e
    have el : m = [] := by
      have := g2.length
      cases m with
      | nil => rfl
      | cons _ _ => simp at this
    subst el
    exact k _ G _ H (by simpa using q) (rv_tup h1 h2 h3) rg (Fr.refl _ _)
  · have t := keep_new (K := X.K) (o := .tup (vs ++ ws)) np
    exact k _ G _ _ q (rv_tup (.inl (.inl upd_same)) ((h2.mono t).append (g2.mono t)) (by simpa using z)) (rg.new np) (Fr.new np)
theorem RG.lst' {a : Addr} {l : List D} {H : Hp} {G : Gp} (r : RG X.K X.m H G) (h : G a = some (.lst l)) : ∃ vs, H a = some (.lst vs) ∧ Rvs X.K X.m H l vs ∧ l.length ≤ sizeLine := r a _ h
/-- a new list -/
theorem new_lst {G : Gp} {H : Hp} {p : Addr} {l : List D} {vs : List V} (rg : RG X.K X.m H G) (np : H p = none) (r : Rvs X.K X.m H l vs) (z : l.length ≤ sizeLine) : RG X.K X.m (upd H p (.lst vs)) (up G p (.lst l)) :=
  rg.newS np ⟨vs, upd_same, r.mono (keep_new np), z⟩
theorem oAddL_s : OpS X oAddL rCat := fun x y G Q v u H Qv ⟨a, b, l, m, e1, e2, ha, hb, z, q⟩ rx ry rg k => by
  subst e1; subst e2
  obtain ⟨vs, h1, h2, h3⟩ := RG.lst' rg ha
  obtain ⟨ws, g1, g2, g3⟩ := RG.lst' rg hb
  refine ⟨a, b, vs, ws, rv_ref_inv rx, rv_ref_inv ry, h1, g1, by rw [← h2.length, ← g2.length]; exact z, fun p np => ?_⟩
  exact k _ _ _ _ (q p (rg.fresh np)) rv_ref (new_lst rg np (h2.append g2) (by simpa using z)) (Fr.newS np)
theorem op_add_s : OpR X (binaryOp .Add) rAddS := op_add_str
theorem de_add {a b : Expr} {ta tb : TD} {pos : Pos} (ha : DE X a ta) (hb : DE X b tb) : DE X (.BinOp a .Add b pos) (dBin oAdd ta tb) :=
  de_bin (OpR.or op_add (OpR.or op_add_s (OpR.or op_catA op_cat))) (OpS.or oI0_s (OpS.or oAddS_s (OpS.or oAddT_s oAddL_s))) ha hb
def oSub : RD2 := oI0 fun i j => .int (i - j)
def oMul : RD2 := oI CMul fun i j => .int (i * j)
def oFdiv : RD2 := oI CDivN fun i j => .int (i.fdiv j)
def oMod : RD2 := oI (fun _ j => j ≠ 0) fun i j => .int (i.fmod j)
def oPow : RD2 := oI CPow fun i j => .int (i ^ j.toNat)
def oShl : RD2 := oI CPow fun i j => .int (i * 2 ^ j.toNat)
def oShr : RD2 := oI (fun _ j => 0 ≤ j) fun i j => .int (i / 2 ^ j.toNat)
def oAnd : RD2 := oI0 fun i j => .int (Builtin.bitAnd i j)
section
variable {a b : Expr} {ta tb : TD} {pos : Pos}
theorem de_sub (ha : DE X a ta) (hb : DE X b tb) : DE X (.BinOp a .Sub b pos) (dBin oSub ta tb) := de_bin op_sub oI0_s ha hb
theorem de_mulI (ha : DE X a ta) (hb : DE X b tb) : DE X (.BinOp a .Mult b pos) (dBin oMul ta tb) := de_bin op_mul oI_s ha hb
theorem de_fdiv (ha : DE X a ta) (hb : DE X b tb) : DE X (.BinOp a .FloorDiv b pos) (dBin oFdiv ta tb) := de_bin op_fdivN oI_s ha hb
theorem de_mod (ha : DE X a ta) (hb : DE X b tb) : DE X (.BinOp a .Mod b pos) (dBin oMod ta tb) := de_bin op_modN oI_s ha hb
theorem de_pow (ha : DE X a ta) (hb : DE X b tb) : DE X (.BinOp a .Pow b pos) (dBin oPow ta tb) := de_bin op_pow oI_s ha hb
theorem de_shl (ha : DE X a ta) (hb : DE X b tb) : DE X (.BinOp a .LShift b pos) (dBin oShl ta tb) := de_bin op_shl oI_s ha hb
theorem de_shr (ha : DE X a ta) (hb : DE X b tb) : DE X (.BinOp a .RShift b pos) (dBin oShr ta tb) := de_bin op_shr oI_s ha hb
theorem de_band (ha : DE X a ta) (hb : DE X b tb) : DE X (.BinOp a .BitAnd b pos) (dBin oAnd ta tb) := de_bin op_and oI0_s ha hb
end
def dNeg (ta : TD) : TD := fun env G Q => ta env G fun x G1 => ∃ i, x = .int i ∧ Q (.int (-i)) G1
theorem de_neg {a : Expr} {ta : TD} {pos : Pos} (ha : DE X a ta) : DE X (.UnaryOp .USub a pos) (dNeg ta) :=
  de_of (pe_un un_neg ha) fun σ H env G Q Qv rs rg h k => ⟨env, G, _, rs, rg, h, fun x G1 v H1 ⟨i, e, q⟩ r rg1 f => by
    subst e
    exact ⟨i, rv_int_inv r, k _ G1 _ H1 q rv_int rg1 f⟩⟩
end

/-! ### order -/
section
variable {X : Cx}
/-- < over alike data (no None) -/
def rLtP (K : PySem.W.Frag) : R2 := fun x y H Q => ∃ d e, Dp K H x d ∧ Dp K H y e ∧ PySem.W.alike d e = true ∧ d ≠ .none ∧ d.depth ≤ 60 ∧ Q (.bl (PySem.W.dataLt d e)) H
def rGtP (K : PySem.W.Frag) : R2 := fun x y H Q => ∃ d e, Dp K H x d ∧ Dp K H y e ∧ PySem.W.alike d e = true ∧ d ≠ .none ∧ d.depth ≤ 60 ∧ Q (.bl (PySem.W.dataLt e d)) H
theorem op_ltP (hu : X.A.units + 64 < cLine) : OpR X (compareOp .Lt) (rLtP X.K) := by
  intro pins s σ H x y v u Q I rx ry h
  obtain ⟨d, e, hd, he, al, nn, dd, q⟩ := h
  obtain ⟨as, r1⟩ := Dp.reads I d x v hd rx
  obtain ⟨bs, r2⟩ := Dp.reads I e y u he ry
  exact PySem.W.rcLt_alike d e X.A s v u as bs r1 r2 al nn (min_room dd hu) X.prog X.w X.xe _ ⟨.bl _, H, I, rfl, q⟩
/-- two data of one kind -/
def Alk (x y : D) : Prop := Okd 8 x ∧ Okd 8 y ∧ PySem.W.alike x.toP y.toP = true ∧ x ≠ .non
def ltD (x y : D) : Bool := PySem.W.dataLt x.toP y.toP
def oLtD : RD2 := fun x y G Q => Alk x y ∧ Q (.bl (ltD x y)) G
theorem toP_ne {x : D} (h : x ≠ .non) : x.toP ≠ .none := by
  cases x <;> rw [D.toP] <;> first | exact absurd rfl h | (intro z; cases z)
theorem oLtD_s : OpS X oLtD (rLtP X.K) := fun x y G Q v u H Qv ⟨⟨o1, o2, al, nn⟩, q⟩ rx ry rg k =>
  ⟨_, _, rv_dp 8 _ _ o1 rx, rv_dp 8 _ _ o2 ry, al, toP_ne nn, Nat.le_trans (okd_plain 8 _ o1).2 (by decide), k _ G _ H q rv_bl rg (Fr.refl _ _)⟩
def oLtI : RD2 := oI0 fun i j => .bl (decide (i < j))
def oLt : RD2 := fun x y G Q => oLtI x y G Q ∨ oLtD x y G Q
def oLe : RD2 := oI0 fun i j => .bl (decide (i ≤ j))
def oGt : RD2 := oI0 fun i j => .bl (decide (j < i))
def oGe : RD2 := oI0 fun i j => .bl (decide (j ≤ i))
end
end DL
end
section
set_option Elab.async false
set_option linter.all false
set_option maxRecDepth 100000
set_option maxHeartbeats 4000000
/-! Truth, arguments, displays, subscripts, slices over data. -/
namespace DL
open PySem PySem.Spec PyProof.Rows L2
section
variable {X : Cx} {a b c : Expr} {ta tb tc : TD} {ua ub : TDT} {pos : Pos} {rest : List Expr}

/-! ### chains -/
theorem chain_lf {od od' : RD2} {r r' : R2} (hs : OpS X od r) (hs' : OpS X od' r') {σ : L2.St} {H : Hp} {env : Ev} {G : Gp} {Q : DK} {Qv : VK} (rs : RSt X.K X.m H env σ) (rg : RG X.K X.m H G) (h : dChain od od' ta tb tc env G Q) (k : Ko X G H Q Qv) :
    L2.tChain r r' (lf X ta) (lf X tb) (lf X tc) σ H Qv :=
  ⟨env, G, _, rs, rg, h, fun x G1 v H1 q rv rg1 f1 => ⟨env, G1, _, rs.mono (f1.keep rg), rg1, q, fun y G2 u H2 q2 ru rg2 f2 =>
    hs x y G2 _ v u H2 _ q2 (rv.mono (f2.keep rg1)) ru rg2 fun z G3 w H3 ⟨bb, ez, q3⟩ rw3 rg3 f3 => by
      subst ez
      refine ⟨bb, rv_bl_inv rw3, ?_⟩
      have f13 := f1.trans (f2.trans f3)
      cases bb with
      | false =>
        rw [if_neg Bool.false_ne_true] at q3 ⊢
        exact k _ G3 _ H3 q3 rv_bl rg3 f13
      | true =>
        rw [if_pos rfl] at q3 ⊢
        exact ⟨env, G3, _, rs.mono (f13.keep rg), rg3, q3, fun w' G4 t' H4 q4 rw4 rg4 f4 => hs' y w' G4 _ u t' H4 _ q4 ((ru.mono (f3.keep rg2)).mono (f4.keep rg3)) rw4 rg4 (k.mono (f13.trans f4))⟩⟩⟩
theorem de_chain {op op' : CmpOp} {od od' : RD2} {r r' : R2} (ho : OpR X (compareOp op) r) (ho' : OpR X (compareOp op') r') (hs : OpS X od r) (hs' : OpS X od' r') (ha : DE X a ta) (hb : DE X b tb) (hc : DE X c tc)
    (hm : lastMarks [op, op'] [b, c] = false := by with_unfolding_all rfl) : DE X (.Compare a [op, op'] [b, c] pos) (dChain od od' ta tb tc) :=
  de_of (pe_chain ho ho' ha hb hc hm) fun σ H env G Q Qv rs rg h k => chain_lf hs hs' rs rg h k
theorem dt_chain {op op' : CmpOp} {od od' : RD2} {r r' : R2} (ho : OpR X (compareOp op) r) (ho' : OpR X (compareOp op') r') (hs : OpS X od r) (hs' : OpS X od' r') (ha : DE X a ta) (hb : DE X b tb) (hc : DE X c tc)
    (hm : lastMarks [op, op'] [b, c] = false := by with_unfolding_all rfl) : DT X (.Compare a [op, op'] [b, c] pos) (dTest (dChain od od' ta tb tc)) :=
  dt_of (pt_chain ho ho' ha hb hc hm) fun σ H env G Q Qv rs rg h k => chain_lf hs hs' rs rg h (ko_test k)

/-! ### and, or, not, .. if .. else .. -/
def dAndV (ta tb : TD) : TD := fun env G Q => ta env G fun x G1 => ∃ b, x = .bl b ∧ if b = true then tb env G1 Q else Q (.bl false) G1
def dOrV (ta tb : TD) : TD := fun env G Q => ta env G fun x G1 => ∃ b, x = .bl b ∧ if b = true then Q (.bl true) G1 else tb env G1 Q
def dNotV (ta : TD) : TD := fun env G Q => ta env G fun x G1 => ∃ b, x = .bl b ∧ Q (.bl (!b)) G1
def dAndT (ua ub : TDT) : TDT := fun env G Q => ua env G fun b G1 => if b = true then ub env G1 Q else Q false G1
def dOrT (ua ub : TDT) : TDT := fun env G Q => ua env G fun b G1 => if b = true then Q true G1 else ub env G1 Q
def dNotT (ua : TDT) : TDT := fun env G Q => ua env G fun b G1 => Q (!b) G1
theorem de_one {op : BoolOp} (h : DE X a ta) : DE X (.BoolOp op [a] pos) ta := pe_one h
theorem de_and (ha : DE X a ta) (hb : DE X (.BoolOp .And (b :: rest) pos) tb) : DE X (.BoolOp .And (a :: b :: rest) pos) (dAndV ta tb) :=
  de_of (pe_and ha hb) fun σ H env G Q Qv rs rg h k => ⟨env, G, _, rs, rg, h, fun x G1 v H1 ⟨bb, e, q⟩ r rg1 f => by
    subst e
    refine ⟨bb, rv_bl_inv r, ?_⟩
    cases bb with
    | true => rw [if_pos rfl] at q ⊢; exact ⟨env, G1, _, rs.mono (f.keep rg), rg1, q, k.mono f⟩
    | false => rw [if_neg Bool.false_ne_true] at q ⊢; exact k _ G1 _ H1 q rv_bl rg1 f⟩
theorem de_or (ha : DE X a ta) (hb : DE X (.BoolOp .Or (b :: rest) pos) tb) : DE X (.BoolOp .Or (a :: b :: rest) pos) (dOrV ta tb) :=
  de_of (pe_or ha hb) fun σ H env G Q Qv rs rg h k => ⟨env, G, _, rs, rg, h, fun x G1 v H1 ⟨bb, e, q⟩ r rg1 f => by
    subst e
    refine ⟨bb, rv_bl_inv r, ?_⟩
    cases bb with
    | false => rw [if_neg Bool.false_ne_true] at q ⊢; exact ⟨env, G1, _, rs.mono (f.keep rg), rg1, q, k.mono f⟩
    | true => rw [if_pos rfl] at q ⊢; exact k _ G1 _ H1 q rv_bl rg1 f⟩
theorem de_not (ha : DE X a ta) : DE X (.UnaryOp .Not a pos) (dNotV ta) :=
  de_of (pe_not ha) fun σ H env G Q Qv rs rg h k => ⟨env, G, _, rs, rg, h, fun x G1 v H1 ⟨bb, e, q⟩ r rg1 f => by
    subst e
    exact ⟨bb, rv_bl_inv r, k _ G1 _ H1 q rv_bl rg1 f⟩⟩
theorem dw_and1 (ha : DT X a ua) : DW X (.BoolOp .And [a] pos) ua := pw_and1 ha
theorem dw_or1 (ha : DT X a ua) : DW X (.BoolOp .Or [a] pos) ua := pw_or1 ha
theorem dw_and (ha : DT X a ua) (hb : DW X (.BoolOp .And (b :: rest) pos) ub) : DW X (.BoolOp .And (a :: b :: rest) pos) (dAndT ua ub) :=
  dw_of (pw_and ha hb) fun σ H env G Q Qv rs rg h k => ⟨env, G, _, rs, rg, h, fun bb G1 H1 q rg1 f => by
    cases bb with
    | true => rw [if_pos rfl] at q ⊢; exact ⟨env, G1, _, rs.mono (f.keep rg), rg1, q, k.mono f⟩
    | false => rw [if_neg Bool.false_ne_true] at q ⊢; exact k _ G1 H1 q rg1 f⟩
theorem dw_or (ha : DT X a ua) (hb : DW X (.BoolOp .Or (b :: rest) pos) ub) : DW X (.BoolOp .Or (a :: b :: rest) pos) (dOrT ua ub) :=
  dw_of (pw_or ha hb) fun σ H env G Q Qv rs rg h k => ⟨env, G, _, rs, rg, h, fun bb G1 H1 q rg1 f => by
    cases bb with
    | false => rw [if_neg Bool.false_ne_true] at q ⊢; exact ⟨env, G1, _, rs.mono (f.keep rg), rg1, q, k.mono f⟩
    | true => rw [if_pos rfl] at q ⊢; exact k _ G1 H1 q rg1 f⟩
theorem dw_t {e : Expr} (h : DW X e ua) : DT X e ua := PW.pt h
theorem dt_not (ha : DT X a ua) : DT X (.UnaryOp .Not a pos) (dNotT ua) :=
  dt_of (pt_not ha) fun σ H env G Q Qv rs rg h k => ⟨env, G, _, rs, rg, h, fun bb G1 H1 q rg1 f => k _ G1 H1 q rg1 f⟩
def dIf (u : TDT) (ta tb : TD) : TD := fun env G Q => u env G fun b G1 => if b = true then ta env G1 Q else tb env G1 Q
theorem de_ifExp {t : Expr} (ht : DT X t ua) (ha : DE X a ta) (hb : DE X b tb) : DE X (.IfExp t a b pos) (dIf ua ta tb) :=
  de_of (pe_ifExp ht ha hb) fun σ H env G Q Qv rs rg h k => ⟨env, G, _, rs, rg, h, fun bb G1 H1 q rg1 f => by
    cases bb with
    | true => rw [if_pos rfl] at q ⊢; exact ⟨env, G1, _, rs.mono (f.keep rg), rg1, q, k.mono f⟩
    | false => rw [if_neg Bool.false_ne_true] at q ⊢; exact ⟨env, G1, _, rs.mono (f.keep rg), rg1, q, k.mono f⟩⟩

/-! ### is None -/
def isN : D → Bool
  | .non => true
  | _ => false
def dIsN (ta : TD) : TD := fun env G Q => ta env G fun x G1 => Q (.bl (isN x)) G1
def dNotN (ta : TD) : TD := fun env G Q => ta env G fun x G1 => Q (.bl (!isN x)) G1
theorem isN_of {H : Hp} {x : D} {v : V} (r : Rv X.K X.m H x v) : decide (v = .non) = isN x := by
  cases x with
  | non => rw [rv_non_inv r]; rfl
  | bl b => rw [rv_bl_inv r]; rfl
  | int b => rw [rv_int_inv r]; rfl
  | str b => rw [rv_str_inv r]; rfl
  | tup l => obtain ⟨a, vs, rfl, _⟩ := rv_tup_inv r; rfl
  | ref b => rw [rv_ref_inv r]; rfl
  | gl b => obtain ⟨a, _, rfl⟩ := rv_gl_inv r; rfl
  | ty b => rw [rv_ty_inv r]; rfl
theorem isN_lf {σ : L2.St} {H : Hp} {env : Ev} {G : Gp} {Q : DK} {Qv : VK} (rs : RSt X.K X.m H env σ) (rg : RG X.K X.m H G) (h : dIsN ta env G Q) (k : Ko X G H Q Qv) : tIsN (lf X ta) σ H Qv :=
  ⟨env, G, _, rs, rg, h, fun x G1 v H1 q r rg1 f => by
    show Qv (.bl (decide (v = .non))) H1
    rw [isN_of r]
    exact k _ G1 _ H1 q rv_bl rg1 f⟩
theorem notN_lf {σ : L2.St} {H : Hp} {env : Ev} {G : Gp} {Q : DK} {Qv : VK} (rs : RSt X.K X.m H env σ) (rg : RG X.K X.m H G) (h : dNotN ta env G Q) (k : Ko X G H Q Qv) : tNotN (lf X ta) σ H Qv :=
  ⟨env, G, _, rs, rg, h, fun x G1 v H1 q r rg1 f => by
    show Qv (.bl (!decide (v = .non))) H1
    rw [isN_of r]
    exact k _ G1 _ H1 q rv_bl rg1 f⟩
theorem de_isN {j pos'} (ha : DE X a ta) : DE X (.Compare a [.Is] [.Constant .none j pos'] pos) (dIsN ta) := de_of (pe_cmp (pc_isN ha) rfl) fun σ H env G Q Qv rs rg h k => isN_lf rs rg h k
theorem de_notN {j pos'} (ha : DE X a ta) : DE X (.Compare a [.IsNot] [.Constant .none j pos'] pos) (dNotN ta) := de_of (pe_cmp (pc_notN ha) rfl) fun σ H env G Q Qv rs rg h k => notN_lf rs rg h k
theorem dt_isN {j pos'} (ha : DE X a ta) : DT X (.Compare a [.Is] [.Constant .none j pos'] pos) (dTest (dIsN ta)) := dt_of (pt_cmp (pc_isN ha) rfl) fun σ H env G Q Qv rs rg h k => isN_lf rs rg h (ko_test k)
theorem dt_notN {j pos'} (ha : DE X a ta) : DT X (.Compare a [.IsNot] [.Constant .none j pos'] pos) (dTest (dNotN ta)) := dt_of (pt_cmp (pc_notN ha) rfl) fun σ H env G Q Qv rs rg h k => notN_lf rs rg h (ko_test k)

/-! ### arguments, displays -/
def dNil : TDA := fun _ G Q => Q [] G
def dCons (ta : TD) (tr : TDA) : TDA := fun env G Q => ta env G fun x G1 => tr env G1 fun xs G2 => Q (x :: xs) G2
variable {es : List Expr} {tr : TDA}
theorem da_nil : DA X [] dNil := da_of pa_nil fun σ H env G Q Qv rs rg h k => k [] G [] H h rvs_nil rg (Fr.refl _ _)
theorem da_cons (ha : DE X a ta) (hr : DA X es tr) (hs : starEach (a :: es) X.env = (false, eval a X.env) :: starEach es X.env := by rfl) : DA X (a :: es) (dCons ta tr) :=
  da_of (pa_cons ha hr hs) fun σ H env G Q Qv rs rg h k => ⟨env, G, _, rs, rg, h, fun x G1 v H1 q r rg1 f => ⟨env, G1, _, rs.mono (f.keep rg), rg1, q, fun xs G2 vs H2 q2 r2 rg2 f2 =>
    k _ G2 _ H2 q2 (rvs_cons (r.mono (f2.keep rg1)) r2) rg2 (f.trans f2)⟩⟩
def dTup (tr : TDA) : TD := fun env G Q => tr env G fun ds G1 => ds.length ≤ sizeLine ∧ Q (.tup ds) G1
def dLst (tr : TDA) : TD := fun env G Q => tr env G fun ds G1 => ds.length ≤ sizeLine ∧ ∀ p, G1 p = none → Q (.ref p) (up G1 p (.lst ds))
theorem de_tup {k : Nat} (h : DA X es tr) : DE X (.Tuple es k pos) (dTup tr) :=
  de_of (pe_tup h) fun σ H env G Q Qv rs rg ht k => ⟨env, G, _, rs, rg, ht, fun ds G1 vs H1 ⟨z, q⟩ r rg1 f => ⟨by rw [← r.length]; exact z, fun p np =>
    k _ G1 _ _ q (rv_tup (.inl (.inl upd_same)) (r.mono (keep_new np)) z) (rg1.new np) (f.trans (Fr.new np))⟩⟩
theorem de_lst (h : DA X es tr) : DE X (.List es pos) (dLst tr) :=
  de_of (pe_lst h) fun σ H env G Q Qv rs rg ht k => ⟨env, G, _, rs, rg, ht, fun ds G1 vs H1 ⟨z, q⟩ r rg1 f => ⟨by rw [← r.length]; exact z, fun p np =>
    k _ _ _ _ (q p (rg1.fresh np)) rv_ref (new_lst rg1 np r z) (f.trans (Fr.newS np))⟩⟩
/-- {} : keys are ints and texts -/
def dDNew : TD := fun _ G Q => ∀ p, G p = none → Q (.ref p) (up G p (.dk []))
theorem de_dnew : DE X (.Dict [] [] pos) dDNew := de_of pe_dnewK fun σ H env G Q Qv rs rg h k p np =>
  k _ _ _ _ (h p (rg.fresh np)) rv_ref (rg.newS np ⟨[], upd_same, .nil, Nat.zero_le _⟩) (Fr.newS np)
end

/-! ### dicts -/
def keyOf : D → Option Key
  | .int i => some (.inl i)
  | .str x => some (.inr x)
  | _ => none
def rowOf : D → Option (List Key)
  | .tup l => l.mapM keyOf
  | _ => none
def valK {κ α : Type} [DecidableEq κ] (kvs : List (κ × α)) (k : κ) : Option α := (kvs.find? fun kv => decide (kv.1 = k)).map (·.2)
def putD {κ α : Type} [DecidableEq κ] (kvs : List (κ × α)) (k : κ) (v : α) : List (κ × α) :=
  if (kvs.any fun kv => decide (kv.1 = k)) = true then kvs.map (fun kv => if kv.1 = k then (kv.1, v) else kv) else kvs ++ [(k, v)]
section
variable {K : PySem.W.Frag} {mg : Mg} {H : Hp}
theorem rv_key {d : D} {v : V} {k : Key} (r : Rv K mg H d v) (e : keyOf d = some k) : v = kV k := by
  cases d <;> simp only [keyOf, Option.some.injEq] at e <;> first | cases e | skip
  · exact rv_int_inv r
  · exact rv_str_inv r
theorem rvs_keys : ∀ {l : List D} {vs : List V} {ks : List Key}, Rvs K mg H l vs → l.mapM keyOf = some ks → vs = ks.map kV
  | [], vs, ks, r, e => by
    rw [rvs_nil_inv r]
    simp at e
    subst e
    rfl
  | d :: l, vs, ks, r, e => by
    obtain ⟨v, ws, rfl, r1, r2⟩ := rvs_cons_inv r
    rw [List.mapM_cons] at e
    cases h1 : keyOf d with
    | none => rw [h1] at e; cases e
    | some k =>
      rw [h1] at e
      cases h2 : l.mapM keyOf with
      | none => rw [h2] at e; cases e
      | some ks' =>
        rw [h2] at e
        cases e
        rw [rv_key r1 h1, rvs_keys r2 h2]
        rfl
theorem rk_find {κ : Type} [DecidableEq κ] : ∀ {l : List (κ × D)} {m : List (κ × V)} (k : κ), Rk K mg H l m → match valK l k with
    | none => valV m k = none
    | some d => ∃ v, valV m k = some v ∧ Rv K mg H d v
  | _, _, k, .nil => rfl
  | p :: l, q :: m, k, .cons h t => by
    obtain ⟨h1, h2⟩ := h
    have ih := rk_find k t
    unfold valK valV
    by_cases e : p.1 = k
    · rw [List.find?_cons_of_pos (by simpa using e), List.find?_cons_of_pos (by simpa [← h1] using e)]
      exact ⟨_, rfl, h2⟩
    · rw [List.find?_cons_of_neg (by simpa using e), List.find?_cons_of_neg (by simpa [← h1] using e)]
      exact ih
theorem rk_any {κ : Type} [DecidableEq κ] {k : κ} : ∀ {l : List (κ × D)} {m : List (κ × V)}, Rk K mg H l m → (l.any fun kv => decide (kv.1 = k)) = (m.any fun kv => decide (kv.1 = k))
  | _, _, .nil => rfl
  | p :: l, q :: m, .cons h t => by rw [List.any_cons, List.any_cons, h.1, rk_any t]
theorem rk_map {κ : Type} [DecidableEq κ] {k : κ} {d : D} {v : V} (r : Rv K mg H d v) : ∀ {l : List (κ × D)} {m : List (κ × V)}, Rk K mg H l m → Rk K mg H (l.map fun kv => if kv.1 = k then (kv.1, d) else kv) (m.map fun kv => if kv.1 = k then (kv.1, v) else kv)
  | _, _, .nil => .nil
  | p :: l, q :: m, .cons h t => by
    rw [List.map_cons, List.map_cons]
    refine .cons ?_ (rk_map r t)
    rw [← h.1]
    by_cases e : p.1 = k
    · rw [if_pos e, if_pos e]; exact ⟨rfl, r⟩
    · rw [if_neg e, if_neg e]; exact h
theorem rk_app {κ : Type} : ∀ {l l' : List (κ × D)} {m m' : List (κ × V)}, Rk K mg H l m → Rk K mg H l' m' → Rk K mg H (l ++ l') (m ++ m')
  | _, _, _, _, .nil, t => t
  | _, _, _, _, .cons h r, t => .cons h (rk_app r t)
theorem rk_put {κ : Type} [DecidableEq κ] {k : κ} {d : D} {v : V} (r : Rv K mg H d v) {l : List (κ × D)} {m : List (κ × V)} (h : Rk K mg H l m) : Rk K mg H (putD l k d) (putK m k v) := by
  unfold putD putK
  rw [← rk_any h]
  by_cases e : (l.any fun kv => decide (kv.1 = k)) = true
  · rw [if_pos e, if_pos e]; exact rk_map r h
  · rw [if_neg e, if_neg e]; exact rk_app h (.cons ⟨rfl, r⟩ .nil)
theorem Rk.length {κ : Type} : ∀ {l : List (κ × D)} {m : List (κ × V)}, Rk K mg H l m → l.length = m.length
  | _, _, .nil => rfl
  | _, _, .cons _ t => by rw [List.length_cons, List.length_cons, Rk.length t]
theorem putD_length {κ α : Type} [DecidableEq κ] (l : List (κ × α)) (k : κ) (v : α) : (putD l k v).length ≤ l.length + 1 := by
  unfold putD
  split
  · rw [List.length_map]; omega
  · rw [List.length_append]; exact Nat.le_refl _
end

end DL
end
section
set_option Elab.async false
set_option linter.all false
set_option maxRecDepth 100000
set_option maxHeartbeats 4000000
/-! Statements and loops over data. -/
namespace DL
open PySem PySem.Spec PyProof.Rows L2
section
variable {X : Cx} {a b c : Expr} {ta tb tc : TD} {ua ub : TDT} {pos : Pos} {st : Stmt} {rest : List Stmt} {t u : TDS}

def dNext : TDS := fun DD env G => DD.nx env G
def dSeq (t u : TDS) : TDS := fun DD env G => t { DD with nx := u DD } env G
def dBreak : TDS := fun DD env G => DD.bk env G
def dCont : TDS := fun DD env G => DD.ct env G
def dNever : TDS := fun _ _ _ => False
def dDrop (ta : TD) : TDS := fun DD env G => ta env G fun _ G1 => DD.nx env G1
def dRet (ta : TD) : TDS := fun DD env G => ta env G DD.rt
def dRetN : TDS := fun DD _ G => DD.rt .non G
def dIfS (ua : TDT) (t u : TDS) : TDS := fun DD env G => ua env G fun b G1 => if b = true then t DD env G1 else u DD env G1
theorem dss_nil : DSs X [] dNext := dss_of pss_nil fun D σ H env G DD rs rg h k => k.nx env G σ H h rs rg (Fr.refl _ _)
theorem dss_cons (h1 : DS X st t) (h2 : DSs X rest u) : DSs X (st :: rest) (dSeq t u) :=
  dss_of (pss_cons h1 h2) fun D σ H env G DD rs rg h k => ⟨env, G, _, rs, rg, h, ⟨fun env' G' σ' H' q rs' rg' f => ⟨env', G', DD, rs', rg', q, k.mono f⟩, k.rt, k.bk, k.ct, k.ex⟩⟩
theorem dss_one (h1 : DS X st t) : DSs X [st] t := pss_one h1
theorem ds_pass : DS X (.Pass pos) dNext := ds_of ps_pass fun D σ H env G DD rs rg h k => k.nx env G σ H h rs rg (Fr.refl _ _)
theorem ds_break : DS X (.Break pos) dBreak := ds_of ps_break fun D σ H env G DD rs rg h k => k.bk env G σ H h rs rg (Fr.refl _ _)
theorem ds_continue : DS X (.Continue pos) dCont := ds_of ps_continue fun D σ H env G DD rs rg h k => k.ct env G σ H h rs rg (Fr.refl _ _)
theorem ds_never : DS X st dNever := ds_of ps_never fun D σ H env G DD rs rg h k => h
theorem dss_never {sts : List Stmt} : DSs X sts dNever := dss_of pss_never fun D σ H env G DD rs rg h k => h
theorem ds_expr (ha : DE X a ta) (hs : swapsWith a none pos.line X.env = pure false := by rfl) : DS X (.Expr a pos) (dDrop ta) :=
  ds_of (ps_expr ha hs) fun D σ H env G DD rs rg h k => ⟨env, G, _, rs, rg, h, fun d G1 v H1 q r rg1 f => k.nx env G1 σ H1 q (rs.mono (f.keep rg)) rg1 f⟩
theorem ds_ret (ha : DE X a ta) : DS X (.Return (some a) pos) (dRet ta) :=
  ds_of (ps_ret ha) fun D σ H env G DD rs rg h k => ⟨env, G, _, rs, rg, h, k.rt⟩
theorem ds_retN : DS X (.Return none pos) dRetN := ds_of ps_retN fun D σ H env G DD rs rg h k => k.rt _ G _ H h rv_non rg (Fr.refl _ _)
theorem ds_if {p q : List Stmt} (hc : DT X c ua) (hp : DSs X p t) (hq : DSs X q u) : DS X (.If c p q pos) (dIfS ua t u) :=
  ds_of (ps_if hc hp hq) fun D σ H env G DD rs rg h k => ⟨env, G, _, rs, rg, h, fun bb G1 H1 q rg1 f => by
    cases bb with
    | true => rw [if_pos rfl] at q ⊢; exact ⟨env, G1, DD, rs.mono (f.keep rg), rg1, q, k.mono f⟩
    | false => rw [if_neg Bool.false_ne_true] at q ⊢; exact ⟨env, G1, DD, rs.mono (f.keep rg), rg1, q, k.mono f⟩⟩

/-! ### targets -/
abbrev TDG := D → Ev → Gp → (Ev → Gp → Prop) → Prop
abbrev TDGs := List D → Ev → Gp → (Ev → Gp → Prop) → Prop
def KoG (X : Cx) (G : Gp) (H : Hp) (Q : Ev → Gp → Prop) (Qv : L2.St → Hp → Prop) : Prop := ∀ env G' σ H', Q env G' → RSt X.K X.m H' env σ → RG X.K X.m H' G' → Fr G G' H H' → Qv σ H'
theorem KoG.mono {G G' : Gp} {H H' : Hp} {Q : Ev → Gp → Prop} {Qv : L2.St → Hp → Prop} (k : KoG X G H Q Qv) (f : Fr G G' H H') : KoG X G' H' Q Qv := fun e g s h q r rg fr => k e g s h q r rg (f.trans fr)
/-- a target's data reading -/
def lfG (X : Cx) (t : TDG) : TG := fun v σ H Qv => ∃ d env G Q, Rv X.K X.m H d v ∧ RSt X.K X.m H env σ ∧ RG X.K X.m H G ∧ t d env G Q ∧ KoG X G H Q Qv
def lfGs (X : Cx) (t : TDGs) : TGs := fun vs σ H Qv => ∃ ds env G Q, Rvs X.K X.m H ds vs ∧ RSt X.K X.m H env σ ∧ RG X.K X.m H G ∧ t ds env G Q ∧ KoG X G H Q Qv
abbrev DG (X : Cx) (tg : Expr) (t : TDG) : Prop := PG X tg (lfG X t)
abbrev DGs (X : Cx) (tg : List Expr) (t : TDGs) : Prop := PGs X tg (lfGs X t)
def dgName (i : Nat) : TDG := fun d env G Q => Q (env.set i (some d)) G
theorem PG.mono {tg : Expr} {t t' : TG} (h : PG X tg t) (w : ∀ v σ H Q, t' v σ H Q → t v σ H Q) : PG X tg t' := ⟨fun pins s σ H x u Q I r q => h.run pins s σ H x u Q I r (w _ _ _ _ q)⟩
theorem PGs.mono {tg : List Expr} {t t' : TGs} (h : PGs X tg t) (w : ∀ v σ H Q, t' v σ H Q → t v σ H Q) : PGs X tg t' := ⟨fun pins s σ H x u Q I r q => h.run pins s σ H x u Q I r (w _ _ _ _ q)⟩
theorem dg_name {i : Nat} {x : Str} (hN : X.N.Nodup) (hi : X.N[i]? = some x) (hx : Loc X.env.scope x) (hf : X.fn x = true ∨ X.env.scope.names.lookup x = some .local := by first | exact .inl rfl | exact .inr rfl | assumption) : DG X (.Name x pos) (dgName i) :=
  PG.mono (pg_name hN hi hx hf) fun v σ H Qv ⟨d, env, G, Q, r, rs, rg, h, k⟩ => k _ G _ H h (rs.set r) rg (Fr.refl _ _)
def dgNil : TDGs := fun ds env G Q => ds = [] ∧ Q env G
def dgCons (t : TDG) (u : TDGs) : TDGs := fun ds env G Q => ∃ d r, ds = d :: r ∧ t d env G fun env' G' => u r env' G' Q
theorem dgs_nil : DGs X [] dgNil := PGs.mono pgs_nil fun v σ H Qv ⟨ds, env, G, Q, r, rs, rg, ⟨e, h⟩, k⟩ => by
  subst e
  exact ⟨rvs_nil_inv r, k _ G _ H h rs rg (Fr.refl _ _)⟩
theorem dgs_cons {e : Expr} {es : List Expr} {t : TDG} {u : TDGs} (h1 : DG X e t) (h2 : DGs X es u) (hs : (assignEach (e :: es) X.env).map (·.2) = assign e X.env :: (assignEach es X.env).map (·.2) := by rfl) : DGs X (e :: es) (dgCons t u) :=
  PGs.mono (pgs_cons h1 h2 hs) fun vs σ H Qv ⟨ds, env, G, Q, r, rs, rg, ⟨d, l, e, h⟩, k⟩ => by
    subst e
    obtain ⟨v, ws, rfl, r1, r2⟩ := rvs_cons_inv r
    exact ⟨v, ws, rfl, d, env, G, _, r1, rs, rg, h, fun env' G' σ' H' q rs' rg' f => ⟨l, env', G', Q, r2.mono (f.keep rg), rs', rg', q, k.mono f⟩⟩
def dgTup (n : Nat) (t : TDGs) : TDG := fun d env G Q => ∃ l, d = .tup l ∧ l.length = n ∧ t l env G Q
theorem dg_tup {es : List Expr} {k : Nat} {t : TDGs} {n : Nat} (hc : X.calm = true) (h : DGs X es t)
    (hn : (assignEach es X.env).length = n := by rfl) (hst : (assignEach es X.env).findIdx? (·.1) = none := by rfl) : DG X (.Tuple es k pos) (dgTup n t) :=
  PG.mono (pg_tup hc h hn hst) fun v σ H Qv ⟨d, env, G, Q, r, rs, rg, ⟨l, e, hl, h⟩, k⟩ => by
    subst e
    obtain ⟨a, vs, rfl, h1, h2, _⟩ := rv_tup_inv r
    exact ⟨a, vs, rfl, h1, by rw [← h2.length]; exact hl, l, env, G, Q, h2, rs, rg, h, k⟩
def dAsg (ta : TD) (g : TDG) : TDS := fun DD env G => ta env G fun d G1 => g d env G1 DD.nx
theorem asg_lf {g : TDG} {D : Ends} {σ : L2.St} {H : Hp} {env : Ev} {G : Gp} {DD : DEnds} (rs : RSt X.K X.m H env σ) (rg : RG X.K X.m H G) (h : dAsg ta g DD env G) (k : KoS X G H DD D) : tAsg (lf X ta) (lfG X g) D σ H :=
  ⟨env, G, _, rs, rg, h, fun d G1 v H1 q r rg1 f => ⟨d, env, G1, _, r, rs.mono (f.keep rg), rg1, q, fun env' G' σ' H' q' rs' rg' f' => k.nx env' G' σ' H' q' rs' rg' (f.trans f')⟩⟩
theorem ds_asg {tg : Expr} {g : TDG} (ha : DE X a ta) (hg : DG X tg g) (hs : swapsWithSole [tg] a pos.line X.env = pure false := by rfl) (hw : swappedStores [tg] a X.env = pure none := by rfl)
    (h1 : (assignEach [tg] X.env).map (·.2) = [assign tg X.env] := by rfl) : DS X (.Assign [tg] a pos) (dAsg ta g) :=
  ds_of (ps_asg ha hg hs hw h1) fun D σ H env G DD rs rg h k => asg_lf rs rg h k
theorem ds_set {i : Nat} {x : Str} {pos' : Pos} (hN : X.N.Nodup) (hi : X.N[i]? = some x) (hx : Loc X.env.scope x) (ha : DE X a ta) (hs : swapsWith a (some (.Name x pos')) pos.line X.env = pure false := by rfl) (hf : X.fn x = true ∨ X.env.scope.names.lookup x = some .local := by first | exact .inl rfl | exact .inr rfl | assumption) :
    DS X (.Assign [.Name x pos'] a pos) (dAsg ta (dgName i)) :=
  ds_of (ps_set hN hi hx ha hs hf) fun D σ H env G DD rs rg h k => ⟨env, G, _, rs, rg, h, fun d G1 v H1 q r rg1 f => k.nx _ G1 _ H1 q ((rs.mono (f.keep rg)).set r) rg1 f⟩
/-- a, b = e1, e2 -/
def dPar (i j : Nat) (tr : TDA) : TDS := fun DD env G => tr env G fun ds G1 => ∃ x y, ds = [x, y] ∧ DD.nx ((env.set i (some x)).set j (some y)) G1

/-! ### while -/
def whD (u : TDT) (t : TDS) (DD : DEnds) : Nat → Ev → Gp → Prop
  | 0, _, _ => False
  | n + 1, env, G => u env G fun b G1 => if b = true then t { DD with nx := whD u t DD n, ct := whD u t DD n, bk := DD.nx } env G1 else DD.nx env G1
def dWhile (u : TDT) (t : TDS) : TDS := fun DD env G => ∃ n, whD u t DD n env G

theorem ds_while {body : List Stmt} (hp : PassesOwn (model X.prog X.w) X.A X.env X.xe) (hc : DT X c ua) (hb : DSs X body t) : DS X (.While c body [] pos) (dWhile ua t) :=
  ds_of (ps_while hp hc hb) fun D σ H env G DD rs rg ⟨n, h⟩ k => by
    refine ⟨fun m σ1 H1 => ∃ env1 G1, RSt X.K X.m H1 env1 σ1 ∧ RG X.K X.m H1 G1 ∧ whD ua t DD m env1 G1 ∧ Fr G G1 H H1, ⟨n, env, G, rs, rg, h, Fr.refl _ _⟩, ?_⟩
    rintro m σ1 H1 ⟨env1, G1, rs1, rg1, h1, f1⟩
    cases m with
    | zero => exact h1.elim
    | succ m =>
      refine ⟨env1, G1, _, rs1, rg1, h1, fun bb G2 H2 q rg2 f2 => ?_⟩
      have f12 := f1.trans f2
      cases bb with
      | false =>
        rw [if_neg Bool.false_ne_true] at q
        exact iteF (k.nx env1 G2 σ1 H2 q (rs1.mono (f2.keep rg1)) rg2 f12)
      | true =>
        rw [if_pos rfl] at q
        refine iteT ⟨fun σ3 H3 => ∃ env3 G3, RSt X.K X.m H3 env3 σ3 ∧ RG X.K X.m H3 G3 ∧ whD ua t DD m env3 G3 ∧ Fr G G3 H H3, fun σ3 H3 h3 => ⟨m, Nat.lt_succ_self m, h3⟩, env1, G2, _, rs1.mono (f2.keep rg1), rg2, q, ?_⟩
        exact ⟨fun env3 G3 σ3 H3 q3 rs3 rg3 f3 => ⟨env3, G3, rs3, rg3, q3, f12.trans f3⟩, (k.mono f12).rt, fun env3 G3 σ3 H3 q3 rs3 rg3 f3 => (k.mono f12).nx env3 G3 σ3 H3 q3 rs3 rg3 f3,
          fun env3 G3 σ3 H3 q3 rs3 rg3 f3 => ⟨env3, G3, rs3, rg3, q3, f12.trans f3⟩, (k.mono f12).ex⟩
theorem ds_par {i j : Nat} {x y : Str} {tr : TDA} {px py pt : Pos} {kt k2 pt2} (hc : X.calm = true) (hN : X.N.Nodup) (hi : X.N[i]? = some x) (hj : X.N[j]? = some y) (hij : i ≠ j)
    (hx : X.env.scope.names.lookup x = some .local) (hy : X.env.scope.names.lookup y = some .local) (ha : DA X [a, b] tr)
    (hw : swappedStores [.Tuple [.Name x px, .Name y py] kt pt] (.Tuple [a, b] k2 pt2) X.env = pure (some [x, y]))
    (hs : swapsWithSole [.Tuple [.Name x px, .Name y py] kt pt] (.Tuple [a, b] k2 pt2) pos.line X.env = pure false := by rfl) : DS X (.Assign [.Tuple [.Name x px, .Name y py] kt pt] (.Tuple [a, b] k2 pt2) pos) (dPar i j tr) :=
  ds_of (ps_par hc hN hi hj hij hx hy ha hw hs) fun D σ H env G DD rs rg h k => ⟨env, G, _, rs, rg, h, fun ds G1 vs H1 ⟨d, e, ed, q⟩ r rg1 f => by
    subst ed
    obtain ⟨v, ws, rfl, r1, r2⟩ := rvs_cons_inv r
    obtain ⟨w, ws', rfl, r3, r4⟩ := rvs_cons_inv r2
    rw [rvs_nil_inv r4]
    exact ⟨v, w, rfl, k.nx _ G1 _ H1 q (((rs.mono (f.keep rg)).set r1).set r3) rg1 f⟩⟩
/-- x += e, x -= e -/
def dAug (i : Nat) (ta : TD) (od : RD2) : TDS := fun DD env G => ∃ x, env[i]? = some (some x) ∧ ta env G fun y G1 => od x y G1 fun z G2 => DD.nx (env.set i (some z)) G2
theorem ds_aug {i : Nat} {x : Str} {op : Operator} {ti : TIp} {od : RD2} {pos' : Pos} (hN : X.N.Nodup) (hi : X.N[i]? = some x) (hx : Loc X.env.scope x) (ha : DE X a ta) (ho : PIp X op ti) (hs : OpS X od ti)
    (hf : X.fn x = true ∨ X.env.scope.names.lookup x = some .local := by first | exact .inl rfl | exact .inr rfl | assumption) : DS X (.AugAssign (.Name x pos') op a pos) (dAug i ta od) :=
  ds_of (ps_aug hN hi hx ha ho hf) fun D σ H env G DD rs rg ⟨d, e, h⟩ k => by
    obtain ⟨v, ev, rv⟩ := rs.get i d e
    exact ⟨v, ev, env, G, _, rs, rg, h, fun y G1 u H1 q r rg1 f => hs d y G1 _ v u H1 _ q (rv.mono (f.keep rg)) r rg1 fun z G2 w H2 q2 r2 rg2 f2 =>
      k.nx _ G2 _ H2 q2 ((rs.mono ((f.trans f2).keep rg)).set r2) rg2 (f.trans f2)⟩
def oIp (g : Int → Int → Int) : RD2 := oI0 fun i j => .int (g i j)
theorem ds_augAdd {i : Nat} {x : Str} {pos' : Pos} (hN : X.N.Nodup) (hi : X.N[i]? = some x) (hx : Loc X.env.scope x) (ha : DE X a ta)
    (hf : X.fn x = true ∨ X.env.scope.names.lookup x = some .local := by first | exact .inl rfl | exact .inr rfl | assumption) : DS X (.AugAssign (.Name x pos') .Add a pos) (dAug i ta (oIp fun i j => i + j)) :=
  ds_aug hN hi hx ha ip_add (fun x y G Q v u H Qv ⟨i, j, e1, e2, q⟩ rx ry rg k => by
    subst e1; subst e2
    exact ⟨i, j, rv_int_inv rx, rv_int_inv ry, k _ G _ H q rv_int rg (Fr.refl _ _)⟩) hf

/-! ### what is walked -/
structure ItD (X : Cx) (J : It) (items : List D) (st : Gp → Prop) (hs : Hp → Prop) : Prop where
  stop : ∀ i H G, RG X.K X.m H G → st G → hs H → items.length ≤ i → J.stop i H
  go : ∀ i H G d, RG X.K X.m H G → st G → hs H → items[i]? = some d → J.go i H
  yld : ∀ i H G d x H', RG X.K X.m H G → st G → hs H → items[i]? = some d → J.yld i H x H' → RG X.K X.m H' G ∧ Fr G G H H' ∧ Rv X.K X.m H' d x
  hk : ∀ G G' H H', RG X.K X.m H G → Fr G G' H H' → hs H → hs H'
abbrev TDI := Ev → Gp → (List D → (Gp → Prop) → Gp → Prop) → Prop
def lfI (X : Cx) (wi : TDI) : TI := fun σ H R => ∃ env G Q, RSt X.K X.m H env σ ∧ RG X.K X.m H G ∧ wi env G Q ∧
  ∀ items st hs G' J H', Q items st G' → ItD X J items st hs → hs H' → RG X.K X.m H' G' → Fr G G' H H' → items.length ≤ sizeLine → R J H'
abbrev DI (X : Cx) (tg iter : Expr) (wi : TDI) : Prop := PI X tg iter (lfI X wi)
theorem PI.mono {tg iter : Expr} {t t' : TI} (h : PI X tg iter t) (w : ∀ σ H R, t' σ H R → t σ H R) : PI X tg iter t' := ⟨fun pins s σ H R I q => h.run pins s σ H R I (w _ _ _ q)⟩
/-- a list, a tuple, a text -/
def iAny (K : PySem.W.Frag) (tl : TE) : TI := fun σ H R => tl σ H fun x H1 => (∃ a, x = .ref a ∧ (∃ xs, SqL K H1 a xs) ∧ R (Itl K a) H1) ∨ (∃ a, x = .ref a ∧ (∃ xs, SqT K H1 a xs) ∧ R (Itt K a) H1) ∨ (∃ z, x = .str z ∧ R (Its z) H1)
theorem pi_any {tg l : Expr} {tl : TE} (hl : PE X l tl) : PI X tg l (iAny X.K tl) := by
  refine ⟨fun pins s σ H R I h => ?_⟩
  refine thn (hl.run pins s σ H _ I h) fun v s1 ⟨x, H1, I1, r1, q1⟩ => ?_
  rcases q1 with ⟨a, e, ⟨xs, hq⟩, q⟩ | ⟨a, e, ⟨xs, hq⟩, q⟩ | ⟨z, e, q⟩
  · subst e
    cases r1
    obtain ⟨its, rv, p, hz⟩ := I1.list hq
    refine wpAny_pyIter_list p.isList ?_
    refine ⟨s1.heap.objs.size, [s1.heap.objs.size], _, _, H1, rfl, I1.kept (t' := s1.toks) fun b o e => Heap.get?_push_of_some _ e, turn_list a _, ⟨_, Heap.get?_push_size _ rfl, rfl, rfl⟩, fun b hb => ?_, q⟩
    have e : b = s1.heap.objs.size := by simpa using hb
    subst e
    exact I1.fpOk (Nat.le_refl _) (I1.hok.fresh (Nat.le_refl _))
  · subst e
    cases r1
    obtain ⟨its, rv, p, hz⟩ := I1.tuple hq
    refine wpAny_pyIter_tuple (show s1.heap.IsTuple a its.toArray from p) ?_
    refine ⟨s1.heap.objs.size, [s1.heap.objs.size], _, _, H1, rfl, I1.kept (t' := s1.toks) fun b o e => Heap.get?_push_of_some _ e, turn_tuple a _, ⟨_, Heap.get?_push_size _ rfl, rfl, rfl⟩, fun b hb => ?_, q⟩
    have e : b = s1.heap.objs.size := by simpa using hb
    subst e
    exact I1.fpOk (Nat.le_refl _) (I1.hok.fresh (Nat.le_refl _))
  · subst e
    obtain ⟨t, rfl⟩ := r1
    cases ha : z.cps.all (· < 128)
    · exact wpAny_pyIter_wide ha (pi_one (tk := s1.toks) I1 _ (turn_str _ z t "str_iterator" (.inr rfl)) ⟨_, Heap.get?_push_size _ rfl, rfl, rfl⟩ q)
    · exact wpAny_pyIter_ascii ha (pi_one (tk := s1.toks) I1 _ (turn_str _ z t "str_ascii_iterator" (.inl rfl)) ⟨_, Heap.get?_push_size _ rfl, rfl, rfl⟩ q)
/-- the items of a list or a tuple -/
inductive Seq (G : Gp) : D → List D → (Gp → Prop) → Prop where
  | tup {l : List D} : Seq G (.tup l) l (fun _ => True)
  | lst {a : Addr} {l : List D} (h : lstAt G a = some l) : Seq G (.ref a) l (fun G' => lstAt G' a = some l)
  | str {z : Str} (h : z.cps.size ≤ sizeLine) : Seq G (.str z) (z.cps.toList.map fun c => .str ⟨#[c]⟩) (fun _ => True)
def diSeq (ta : TD) : TDI := fun env G Q => ta env G fun x G1 => ∃ l st, Seq G1 x l st ∧ Q l st G1
theorem itd_list {a : Addr} {l : List D} : ItD X (Itl X.K a) l (fun G' => lstAt G' a = some l) (fun _ => True) where
  stop := fun i H G rg h _ hl => by
    obtain ⟨vs, h1, h2, _⟩ := rg.lst h
    exact ⟨vs, h1, by rw [← h2.length]; exact hl⟩
  go := fun i H G d rg h _ hd => by
    obtain ⟨vs, h1, h2, _⟩ := rg.lst h
    obtain ⟨v, e, _⟩ := h2.get hd
    exact ⟨vs, v, h1, e⟩
  yld := fun i H G d x H' rg h _ hd ⟨eH, hy⟩ => by
    subst eH
    obtain ⟨vs, h1, h2, _⟩ := rg.lst h
    obtain ⟨v, e, r⟩ := h2.get hd
    have := hy vs h1
    rw [e] at this
    cases this
    exact ⟨rg, Fr.refl _ _, r⟩
  hk := fun _ _ _ _ _ _ _ => True.intro
theorem itd_tup {a : Addr} {l : List D} : ItD X (Itt X.K a) l (fun _ => True) (fun H => ∃ vs, SqT X.K H a vs ∧ Rvs X.K X.m H l vs) where
  stop := fun i H G rg _ ⟨vs, h1, h2⟩ hl => ⟨vs, h1, by rw [← h2.length]; exact hl⟩
  go := fun i H G d rg _ ⟨vs, h1, h2⟩ hd => by
    obtain ⟨v, e, _⟩ := h2.get hd
    exact ⟨vs, v, h1, e⟩
  yld := fun i H G d x H' rg _ ⟨vs, h1, h2⟩ hd ⟨eH, hy⟩ => by
    subst eH
    obtain ⟨v, e, r⟩ := h2.get hd
    have := hy vs h1
    rw [e] at this
    cases this
    exact ⟨rg, Fr.refl _ _, r⟩
  hk := fun G G' H H' rg f ⟨vs, h1, h2⟩ => ⟨vs, (f.keep rg).tup a vs h1, h2.mono (f.keep rg)⟩
theorem itd_str {z : Str} : ItD X (Its z) (z.cps.toList.map fun c => .str ⟨#[c]⟩) (fun _ => True) (fun _ => True) where
  stop := fun i H G rg _ _ hl => by simpa [Its] using hl
  go := fun i H G d rg _ _ hd => by
    have := (List.getElem?_eq_some_iff.mp hd).1
    simpa [Its] using this
  yld := fun i H G d x H' rg _ _ hd ⟨eH, c, hc, hx⟩ => by
    subst eH hx
    rw [List.getElem?_map] at hd
    have e : z.cps.toList[i]? = some c := by simpa using hc
    rw [e] at hd
    cases hd
    exact ⟨rg, Fr.refl _ _, rv_str⟩
  hk := fun _ _ _ _ _ _ _ => True.intro
theorem di_seq {tg l : Expr} (hl : DE X l ta) : DI X tg l (diSeq ta) :=
  PI.mono (pi_any hl) fun σ H R ⟨env, G, Q, rs, rg, h, k⟩ => ⟨env, G, _, rs, rg, h, fun x G1 v H1 ⟨l, st, hs, q⟩ r rg1 f => by
    cases hs with
    | tup =>
      obtain ⟨a, vs, rfl, h1, h2, h3⟩ := rv_tup_inv r
      exact .inr (.inl ⟨a, rfl, ⟨vs, h1⟩, k l _ _ G1 _ H1 q itd_tup ⟨vs, h1, h2⟩ rg1 f h3⟩)
    | lst h1 =>
      obtain ⟨vs, g1, g2, g3⟩ := rg1.lst h1
      rw [rv_ref_inv r]
      exact .inl ⟨_, rfl, ⟨vs, g1⟩, k l _ _ G1 _ H1 q itd_list True.intro rg1 f g3⟩
    | str h1 =>
      rw [rv_str_inv r]
      exact .inr (.inr ⟨_, rfl, k _ _ _ G1 _ H1 q itd_str True.intro rg1 f (by simpa using h1)⟩)⟩
/-! ### for -/
def forD (g : TDG) (t : TDS) (st : Gp → Prop) (DD : DEnds) : List D → Ev → Gp → Prop
  | [], env, G => st G ∧ DD.nx env G
  | d :: r, env, G => st G ∧ g d env G fun env' G' => t { DD with nx := forD g t st DD r, ct := forD g t st DD r, bk := DD.nx } env' G'
def dFor (wi : TDI) (g : TDG) (t : TDS) : TDS := fun DD env G => wi env G fun items st G1 => forD g t st DD items env G1
theorem ds_for {iter tg : Expr} {body : List Stmt} {wi : TDI} {g : TDG} (hp : PassesOwn (model X.prog X.w) X.A X.env X.xe) (hc : X.calm = true) (hi : DI X tg iter wi) (hg : DG X tg g) (hb : DSs X body t)
    (hs : ∀ x, foldedSetIterable iter X.env x = pure x := by intro _; rfl) : DS X (.For tg iter body [] pos) (dFor wi g t) :=
  ds_of (ps_for hp hc hi hg hb hs) fun D σ H env G DD rs rg h k => ⟨env, G, _, rs, rg, h, fun items st hs0 G1 J H1 q it hh rg1 f1 z1 => by
    refine ⟨fun i m σ2 H2 => ∃ env2 G2, RSt X.K X.m H2 env2 σ2 ∧ RG X.K X.m H2 G2 ∧ forD g t st DD (items.drop i) env2 G2 ∧ Fr G G2 H H2 ∧ hs0 H2 ∧ i + m = items.length,
      ⟨items.length, env, G1, rs.mono (f1.keep rg), rg1, q, f1, hh, Nat.zero_add _⟩, ?_⟩
    rintro i m σ2 H2 ⟨env2, G2, rs2, rg2, q2, f2, hh2, em⟩
    by_cases hi : i < items.length
    · obtain ⟨d, hd⟩ : ∃ d, items[i]? = some d := ⟨items[i], by simp [hi]⟩
      have ed : items.drop i = d :: items.drop (i + 1) := by
        rw [List.drop_eq_getElem_cons hi]
        congr 1
        rw [List.getElem?_eq_getElem hi] at hd
        exact Option.some.inj hd
      rw [ed] at q2
      obtain ⟨hst, q2⟩ := q2
      refine .inr ⟨it.go i H2 G2 d rg2 hst hh2 hd, fun σ3 H3 => ∃ env3 G3, RSt X.K X.m H3 env3 σ3 ∧ RG X.K X.m H3 G3 ∧ forD g t st DD (items.drop (i + 1)) env3 G3 ∧ Fr G G3 H H3 ∧ hs0 H3, fun σ3 H3 ⟨env3, G3, a1, a2, a3, a4, a5⟩ => ⟨m - 1, by omega, env3, G3, a1, a2, a3, a4, a5, by omega⟩, fun x H3 hy => ?_⟩
      obtain ⟨rg3, f3, r3⟩ := it.yld i H2 G2 d x H3 rg2 hst hh2 hd hy
      have hh3 := it.hk _ _ _ _ rg2 f3 hh2
      have f23 := f2.trans f3
      refine ⟨d, env2, G2, _, r3, rs2.mono (f3.keep rg2), rg3, q2, fun env4 G4 σ4 H4 q4 rs4 rg4 f4 => ⟨env4, G4, _, rs4, rg4, q4, ?_⟩⟩
      have hh4 := it.hk _ _ _ _ rg3 f4 hh3
      have f24 := f23.trans f4
      exact ⟨fun env5 G5 σ5 H5 q5 rs5 rg5 f5 => ⟨env5, G5, rs5, rg5, q5, f24.trans f5, it.hk _ _ _ _ rg4 f5 hh4⟩, (k.mono f24).rt, (k.mono f24).nx,
        fun env5 G5 σ5 H5 q5 rs5 rg5 f5 => ⟨env5, G5, rs5, rg5, q5, f24.trans f5, it.hk _ _ _ _ rg4 f5 hh4⟩, (k.mono f24).ex⟩
    · have ei : items.drop i = [] := List.drop_of_length_le (by omega)
      rw [ei] at q2
      obtain ⟨hst, q2⟩ := q2
      exact .inl ⟨it.stop i H2 G2 rg2 hst hh2 (by omega), k.nx env2 G2 σ2 H2 q2 rs2 rg2 f2⟩⟩
end
end DL
end
section
set_option Elab.async false
set_option linter.all false
set_option maxRecDepth 100000
set_option maxHeartbeats 4000000
/-! Comprehensions over data. -/
namespace DL
open PySem PySem.Spec PyProof.Rows L2

/-- the block's own names forgotten -/
def wipeD (env : Ev) : List Nat → Ev
  | [] => env
  | v :: vs => (wipeD env vs).set v none
section
variable {K : PySem.W.Frag} {mg : Mg} {H : Hp}
theorem rst_none {env : Ev} {σ : L2.St} (r : RSt K mg H env σ) (v : Nat) : RSt K mg H (env.set v none) (σ.set v none) := by
  refine ⟨by simpa using r.len, fun i d e => ?_⟩
  by_cases hi : v = i
  · subst hi
    by_cases hl : v < env.length
    · rw [List.getElem?_set_self hl] at e; cases e
    · rw [List.getElem?_eq_none (by simpa using hl)] at e; cases e
  · rw [List.getElem?_set_ne hi] at e
    obtain ⟨u, h1, h2⟩ := r.get i d e
    exact ⟨u, by rw [List.getElem?_set_ne hi]; exact h1, h2⟩
theorem rst_wipe {env : Ev} {σ : L2.St} (r : RSt K mg H env σ) : ∀ vs : List Nat, RSt K mg H (wipeD env vs) (L2.wipe σ vs)
  | [] => r
  | v :: vs => rst_none (rst_wipe r vs) v
end
theorem set_swap (σ : L2.St) (i j : Nat) : (σ.set i none).set j none = (σ.set j none).set i none := by
  by_cases h : i = j
  · subst h; rfl
  · exact List.set_comm _ _ h
theorem wipe_set_gen {i : Nat} {x : Option V} : ∀ (ws : List Nat) (τ : L2.St), (L2.wipe (τ.set i x) ws).set i none = (L2.wipe τ ws).set i none
  | [], τ => by show (τ.set i x).set i none = τ.set i none; rw [List.set_set]
  | w :: ws, τ => by
    show ((L2.wipe (τ.set i x) ws).set w none).set i none = ((L2.wipe τ ws).set w none).set i none
    rw [set_swap _ w i, wipe_set_gen ws τ, set_swap _ i w]
theorem wipe_of_mem {i : Nat} {x : Option V} : ∀ {vs : List Nat} {σ : L2.St}, i ∈ vs → L2.wipe (σ.set i x) vs = L2.wipe σ vs
  | [], _, h => by cases h
  | v :: vs, σ, h => by
    by_cases e : i = v
    · subst e
      exact wipe_set_gen vs σ
    · show (L2.wipe (σ.set i x) vs).set v none = (L2.wipe σ vs).set v none
      rw [wipe_of_mem (by
        rcases List.mem_cons.mp h with h | h
        · exact absurd h e
        · exact h)]
theorem wipe_none (i : Nat) : ∀ (vs : List Nat) (σ : L2.St), L2.wipe (σ.set i none) vs = (L2.wipe σ vs).set i none
  | [], _ => rfl
  | v :: vs, σ => by
    show (L2.wipe (σ.set i none) vs).set v none = ((L2.wipe σ vs).set v none).set i none
    rw [wipe_none i vs σ, set_swap]
theorem wipe_idem : ∀ (vs : List Nat) (σ : L2.St), L2.wipe (L2.wipe σ vs) vs = L2.wipe σ vs
  | [], _ => rfl
  | v :: vs, σ => by
    show (L2.wipe ((L2.wipe σ vs).set v none) vs).set v none = (L2.wipe σ vs).set v none
    rw [wipe_none, wipe_idem vs σ, List.set_set]

section
variable {X : Cx} {pos : Pos}
/-- a clause's tests -/
abbrev DTs (X : Cx) (ifs : List Expr) (t : TDT) : Prop := PTs X ifs (lfT X t)
def dYes : TDT := fun _ G Q => Q true G
theorem PTs.mono {ifs : List Expr} {t t' : TT} (h : PTs X ifs t) (w : ∀ σ H Q, t' σ H Q → t σ H Q) : PTs X ifs t' := ⟨fun pins s σ H Q I q => h.run pins s σ H Q I (w _ _ _ q)⟩
theorem dts_nil : DTs X [] dYes := PTs.mono pts_nil fun σ H Q ⟨env, G, _, rs, rg, h, k⟩ => k true G H h rg (Fr.refl _ _)
theorem dts_one {c : Expr} {t : TDT} (h : DT X c t) : DTs X [c] t := pts_one h

/-! ### targets that store into the block's names alone -/
def KoV (X : Cx) (vs : List Nat) (G : Gp) (H : Hp) (σ : L2.St) (Q : Ev → Gp → Prop) (Qv : L2.St → Hp → Prop) : Prop := ∀ env G' σ' H', Q env G' → RSt X.K X.m H' env σ' → RG X.K X.m H' G' → Fr G G' H H' → L2.wipe σ' vs = L2.wipe σ vs → Qv σ' H'
def lfV (X : Cx) (vs : List Nat) (t : TDG) : TG := fun v σ H Qv => ∃ d env G Q, Rv X.K X.m H d v ∧ RSt X.K X.m H env σ ∧ RG X.K X.m H G ∧ t d env G Q ∧ KoV X vs G H σ Q Qv
def lfVs (X : Cx) (vs : List Nat) (t : TDGs) : TGs := fun ws σ H Qv => ∃ ds env G Q, Rvs X.K X.m H ds ws ∧ RSt X.K X.m H env σ ∧ RG X.K X.m H G ∧ t ds env G Q ∧ KoV X vs G H σ Q Qv
abbrev DV (X : Cx) (vs : List Nat) (tg : Expr) (t : TDG) : Prop := PG X tg (lfV X vs t)
abbrev DVs (X : Cx) (vs : List Nat) (tg : List Expr) (t : TDGs) : Prop := PGs X tg (lfVs X vs t)
theorem dv_name {vs : List Nat} {i : Nat} {x : Str} (hv : i ∈ vs) (hN : X.N.Nodup) (hi : X.N[i]? = some x) (hx : Loc X.env.scope x) (hf : X.fn x = true ∨ X.env.scope.names.lookup x = some .local := by first | exact .inl rfl | exact .inr rfl | assumption) : DV X vs (.Name x pos) (dgName i) :=
  PG.mono (pg_name hN hi hx hf) fun v σ H Qv ⟨d, env, G, Q, r, rs, rg, h, k⟩ => k _ G _ H h (rs.set r) rg (Fr.refl _ _) (wipe_of_mem hv)
theorem dvs_nil {vs : List Nat} : DVs X vs [] dgNil := PGs.mono pgs_nil fun v σ H Qv ⟨ds, env, G, Q, r, rs, rg, ⟨e, h⟩, k⟩ => by
  subst e
  exact ⟨rvs_nil_inv r, k _ G _ H h rs rg (Fr.refl _ _) rfl⟩
theorem dvs_cons {vs : List Nat} {e : Expr} {es : List Expr} {t : TDG} {u : TDGs} (h1 : DV X vs e t) (h2 : DVs X vs es u) (hs : (assignEach (e :: es) X.env).map (·.2) = assign e X.env :: (assignEach es X.env).map (·.2) := by rfl) : DVs X vs (e :: es) (dgCons t u) :=
  PGs.mono (pgs_cons h1 h2 hs) fun ws σ H Qv ⟨ds, env, G, Q, r, rs, rg, ⟨d, l, e, h⟩, k⟩ => by
    subst e
    obtain ⟨v, ws, rfl, r1, r2⟩ := rvs_cons_inv r
    exact ⟨v, ws, rfl, d, env, G, _, r1, rs, rg, h, fun env' G' σ' H' q rs' rg' f hw => ⟨l, env', G', Q, r2.mono (f.keep rg), rs', rg', q, fun e2 g2 s2 h2 q2 rs2 rg2 f2 w2 => k e2 g2 s2 h2 q2 rs2 rg2 (f.trans f2) (w2.trans hw)⟩⟩
theorem dv_tup {vs : List Nat} {es : List Expr} {k : Nat} {t : TDGs} {n : Nat} (hc : X.calm = true) (h : DVs X vs es t)
    (hn : (assignEach es X.env).length = n := by rfl) (hst : (assignEach es X.env).findIdx? (·.1) = none := by rfl) : DV X vs (.Tuple es k pos) (dgTup n t) :=
  PG.mono (pg_tup hc h hn hst) fun v σ H Qv ⟨d, env, G, Q, r, rs, rg, ⟨l, e, hl, h⟩, k⟩ => by
    subst e
    obtain ⟨a, vs, rfl, h1, h2, _⟩ := rv_tup_inv r
    exact ⟨a, vs, rfl, h1, by rw [← h2.length]; exact hl, l, env, G, Q, h2, rs, rg, h, k⟩

/-- one turn's element: what the tests let through -/
def turnD (g : TDG) (u : TDT) (te : TD) (env : Ev) (d : D) (G : Gp) (Q : Option D → Gp → Prop) : Prop :=
  g d env G fun env' G1 => u env' G1 fun b G2 => if b = true then te env' G2 fun y G3 => Q (some y) G3 else Q none G2
def mapD (st : Gp → Prop) (turn : D → Gp → (Option D → Gp → Prop) → Prop) : List D → List D → Gp → (List D → Gp → Prop) → Prop
  | [], acc, G, Q => st G ∧ Q acc G
  | d :: r, acc, G, Q => st G ∧ turn d G fun o G' => mapD st turn r (acc ++ o.toList) G' Q
def dLc (wi : TDI) (g : TDG) (u : TDT) (te : TD) (vs : List Nat) : TD := fun env G Q => wi env G fun items st G1 =>
  mapD st (turnD g u te (wipeD env vs)) items [] G1 fun l G2 => ∀ p, G2 p = none → Q (.ref p) (up G2 p (.lst l))

/-- an object outside the store written -/
theorem keep_out {H : Hp} {p : Addr} {o : HO} {vs : List V} (e : H p = some (.lst vs)) : TupKeep X.K H (upd H p o) := ⟨fun a ws h => by
  rcases h with (h | ⟨ob, h⟩) | h
  · exact .inl (.inl (by rw [upd_ne (fun z => by subst z; rw [e] at h; cases h)]; exact h))
  · exact .inl (.inr ⟨ob, by rw [upd_ne (fun z => by subst z; rw [e] at h; cases h)]; exact h⟩)
  · exact .inr h, fun c q h => by
  have ne : c ≠ p := fun z => by subst z; rw [e] at h; exact code_lst (Option.some.inj h).symm
  rw [upd_ne ne]
  exact h⟩
theorem rg_out {H : Hp} {G : Gp} {p : Addr} {o : HO} {vs : List V} (rg : RG X.K X.m H G) (e : H p = some (.lst vs)) (g : G p = none) : RG X.K X.m (upd H p o) G := fun a u q => by
  have ne : a ≠ p := fun z => by subst z; rw [g] at q; cases q
  exact (rg a u q).mono (keep_out e) (upd_ne ne)

theorem lc_lf {wi : TDI} {g : TDG} {u : TDT} {te : TD} {vs : List Nat} {σ : L2.St} {H : Hp} {env : Ev} {G : Gp} {Q : DK} {Qv : VK}
    (rs : RSt X.K X.m H env σ) (rg : RG X.K X.m H G) (h : dLc wi g u te vs env G Q) (k : Ko X G H Q Qv) : tLc (lfI X wi) (lfV X vs g) (lfT X u) (lf X te) vs σ H Qv :=
  ⟨env, G, _, rs, rg, h, fun items st hs0 G1 J H1 q it hh rg1 f1 z1 p np => by
    have apart : ∀ a o, H a = some o → G a = none → NoTb o → a ≠ p := fun a o e1 e2 n z => by
      have := (f1.st a o e1 e2 n).1
      rw [z, np] at this
      cases this
    have gp1 : G1 p = none := rg1.fresh np
    refine ⟨fun i m H2 => ∃ G2 acc va, RG X.K X.m H2 G2 ∧ H2 p = some (.lst va) ∧ Rvs X.K X.m H2 acc va ∧ G2 p = none ∧
      mapD st (turnD g u te (wipeD env vs)) (items.drop i) acc G2 (fun l G3 => ∀ p, G3 p = none → Q (.ref p) (up G3 p (.lst l))) ∧ Fr G G2 H H2 ∧ hs0 H2 ∧ i + m = items.length ∧ acc.length ≤ i,
      ⟨items.length, G1, [], [], rg1.new np, upd_same, rvs_nil, gp1, q, f1.trans (Fr.new np), it.hk _ _ _ _ rg1 (Fr.new np) hh, Nat.zero_add _, Nat.le_refl _⟩, ?_⟩
    rintro i m H2 ⟨G2, acc, va, rg2, ep, ra, gp2, q2, f2, hh2, em, la⟩
    by_cases hi : i < items.length
    · obtain ⟨d, hd⟩ : ∃ d, items[i]? = some d := ⟨items[i], by simp [hi]⟩
      have ed : items.drop i = d :: items.drop (i + 1) := by
        rw [List.drop_eq_getElem_cons hi]
        congr 1
        rw [List.getElem?_eq_getElem hi] at hd
        exact Option.some.inj hd
      rw [ed] at q2
      obtain ⟨hst, q2⟩ := q2
      refine .inr ⟨it.go i H2 G2 d rg2 hst hh2 hd, fun H3 => ∃ G3 acc3 va3, RG X.K X.m H3 G3 ∧ H3 p = some (.lst va3) ∧ Rvs X.K X.m H3 acc3 va3 ∧ G3 p = none ∧
        mapD st (turnD g u te (wipeD env vs)) (items.drop (i + 1)) acc3 G3 (fun l G3 => ∀ p, G3 p = none → Q (.ref p) (up G3 p (.lst l))) ∧ Fr G G3 H H3 ∧ hs0 H3 ∧ acc3.length ≤ i + 1,
        fun H3 ⟨G3, acc3, va3, a1, a2, a3, a4, a5, a6, a7, a8⟩ => ⟨m - 1, by omega, G3, acc3, va3, a1, a2, a3, a4, a5, a6, a7, by omega, a8⟩, fun x H3 hy => ?_⟩
      obtain ⟨rg3, f3, r3⟩ := it.yld i H2 G2 d x H3 rg2 hst hh2 hd hy
      have hh3 := it.hk _ _ _ _ rg2 f3 hh2
      have f23 := f2.trans f3
      have rw3 := (rst_wipe rs vs).mono (f23.keep rg)
      refine ⟨d, wipeD env vs, G2, _, r3, rw3, rg3, q2, fun env4 G4 σ4 H4 q4 rs4 rg4 f4 hw => ⟨hw.trans (wipe_idem vs σ), env4, G4, _, rs4, rg4, q4, fun bb G5 H5 q5 rg5 f5 => ?_⟩⟩
      have f35 := f4.trans f5
      have f25 := f3.trans f35
      have ep5 := f25.at p _ ep gp2
      have hh5 := it.hk _ _ _ _ rg3 f35 hh3
      cases bb with
      | false =>
        rw [if_neg Bool.false_ne_true] at q5
        exact iteF ⟨G5, acc, va, rg5, ep5.1, ra.mono (f25.keep rg2), ep5.2, by simpa using q5, f2.trans f25, hh5, by omega⟩
      | true =>
        rw [if_pos rfl] at q5
        refine iteT ⟨env4, G5, _, rs4.mono (f5.keep rg4), rg5, q5, fun y G6 v6 H6 q6 r6 rg6 f6 => ?_⟩
        have f26 := f25.trans f6
        have ep6 := f26.at p _ ep gp2
        have ra6 := ra.mono (f26.keep rg2)
        have hh6 := it.hk _ _ _ _ rg5 f6 hh5
        have ff := f2.trans f26
        have fl : Fr G G6 H (upd H6 p (.lst (va ++ [v6]))) := ⟨fun a o e1 e2 n => by
          rw [upd_ne (apart a o e1 e2 n)]
          exact ff.st a o e1 e2 n⟩
        have tk : TupKeep X.K H6 (upd H6 p (.lst (va ++ [v6]))) := keep_out ep6.1
        have hh7 : hs0 (upd H6 p (.lst (va ++ [v6]))) := it.hk (up G6 p (.lst acc)) _ H6 _ (fun a o e => by
          by_cases z : a = p
          · subst z
            rw [up_same] at e
            cases e
            exact ⟨va, ep6.1, ra6, by omega⟩
          · rw [up_ne z] at e
            exact rg6 a o e) (Fr.put (d := .lst acc) up_same) hh6
        exact ⟨va, ep6.1, by rw [← ra.length]; omega, G6, acc ++ [y], va ++ [v6], rg_out rg6 ep6.1 ep6.2, upd_same, (ra6.mono tk).append (rvs_cons (r6.mono tk) rvs_nil), ep6.2, by simpa using q6, fl, hh7, by simp; omega⟩
    · have ei : items.drop i = [] := List.drop_of_length_le (by omega)
      rw [ei] at q2
      obtain ⟨hst, q2⟩ := q2
      have z2 : acc.length ≤ sizeLine := by omega
      refine .inl ⟨it.stop i H2 G2 rg2 hst hh2 (by omega), k _ _ _ _ (q2 p gp2) rv_ref (fun a o e => ?_) ⟨fun a o e1 e2 n => ?_⟩⟩
      · by_cases z : a = p
        · subst z
          rw [up_same] at e
          cases e
          exact ⟨va, ep, ra, z2⟩
        · rw [up_ne z] at e
          exact rg2 a o e
      · obtain ⟨g1, g2⟩ := f2.st a o e1 e2 n
        exact ⟨g1, by rw [up_ne (apart a o e1 e2 n)]; exact g2⟩⟩

section
variable {elt tg iter : Expr} {ifs : List Expr} {scope : Scope} {own : List (Str × Nat)} {wi : TDI} {g : TDG} {u : TDT} {te : TD}
abbrev Blk (X : Cx) (scope : Scope) (P : Cx → Prop) : Prop := ∀ (s : Shared) (H : Hp) (C : Addr) (cl : List (Str × Addr)) (fp : List Addr), P (X.blk s H scope (compEnvC scope cl C X.env) fp)
theorem de_lc (hc : X.calm = true) (hN : X.N.Nodup) (hi : DI X tg iter wi) (ok : BlkOk X.N X.env.scope scope own)
    (hg : Blk X scope fun Y => DV Y (own.map (·.2)) tg g) (ht : Blk X scope fun Y => DTs Y ifs u) (he : Blk X scope fun Y => DE Y elt te) (hs : ∀ x, foldedSetIterable iter X.env x = pure x := by intro _; rfl) :
    DE X (.ListComp elt [⟨tg, iter, ifs, 0⟩] scope pos) (dLc wi g u te (own.map (·.2))) :=
  de_of (pe_lc hc hN hi ok hg ht he hs) fun σ H env G Q Qv rs rg h k => lc_lf rs rg h k
theorem ds_setLc {i : Nat} {y : Str} {py spos : Pos} (hc : X.calm = true) (hN : X.N.Nodup) (hy : X.N[i]? = some y) (hyl : X.env.scope.names.lookup y = some .local)
    (hsw : swapsWith (.ListComp elt [⟨tg, iter, ifs, 0⟩] scope pos) (some (.Name y py)) spos.line X.env = pure true) (hi : DI X tg iter wi) (ok : BlkOk X.N X.env.scope scope own)
    (hg : Blk X scope fun Y => DV Y (own.map (·.2)) tg g) (ht : Blk X scope fun Y => DTs Y ifs u) (he : Blk X scope fun Y => DE Y elt te) (hs : ∀ x, foldedSetIterable iter X.env x = pure x := by intro _; rfl) :
    DS X (.Assign [.Name y py] (.ListComp elt [⟨tg, iter, ifs, 0⟩] scope pos) spos) (dAsg (dLc wi g u te (own.map (·.2))) (dgName i)) :=
  ds_of (ps_setLc hc hN hy hyl hsw hi ok hg ht he hs) fun D σ H env G DD rs rg h k => by
    refine lc_lf rs rg h fun d G1 v H1 q r rg1 f => ?_
    exact k.nx _ G1 _ H1 q ((rs.mono (f.keep rg)).set r) rg1 f
end
end
end DL
end
section
set_option Elab.async false
set_option linter.all false
set_option maxRecDepth 100000
set_option maxHeartbeats 4000000
/-! Comprehensions of two clauses, dict comprehensions. -/
namespace DL
open PySem PySem.Spec PyProof.Rows L2
section
variable {X : Cx} {pos : Pos}
theorem drop_at {items : List D} {i : Nat} (hi : i < items.length) : ∃ d, items[i]? = some d ∧ items.drop i = d :: items.drop (i + 1) := by
  refine ⟨items[i], by simp [hi], ?_⟩
  rw [List.drop_eq_getElem_cons hi]
/-- the list at p, outside the store, with one item more -/
theorem app_step {G6 : Gp} {H6 : Hp} {p : Addr} {acc : List D} {va : List V} {y : D} {v6 : V} (rg6 : RG X.K X.m H6 G6) (e : H6 p = some (.lst va)) (ra : Rvs X.K X.m H6 acc va) (gp : G6 p = none) (r6 : Rv X.K X.m H6 y v6) (z : acc.length ≤ sizeLine) :
    RG X.K X.m (upd H6 p (.lst (va ++ [v6]))) G6 ∧ TupKeep X.K H6 (upd H6 p (.lst (va ++ [v6]))) ∧ Rvs X.K X.m (upd H6 p (.lst (va ++ [v6]))) (acc ++ [y]) (va ++ [v6]) ∧
      ∀ {J : It} {items : List D} {st : Gp → Prop} {hs0 : Hp → Prop}, ItD X J items st hs0 → hs0 H6 → hs0 (upd H6 p (.lst (va ++ [v6]))) := by
  have tk : TupKeep X.K H6 (upd H6 p (.lst (va ++ [v6]))) := keep_out e
  refine ⟨rg_out rg6 e gp, tk, (ra.mono tk).append (rvs_cons (r6.mono tk) rvs_nil), fun {J items st hs0} it hh => ?_⟩
  exact it.hk (up G6 p (.lst acc)) _ H6 _ (fun a o q => by
    by_cases zz : a = p
    · subst zz
      rw [up_same] at q
      cases q
      exact ⟨va, e, ra, z⟩
    · rw [up_ne zz] at q
      exact rg6 a o q) (Fr.put (d := .lst acc) up_same) hh
def mapB (st : Gp → Prop) (turn : D → Gp → (Option D → Gp → Prop) → Prop) : List D → List D → Gp → (List D → Gp → Prop) → Prop
  | [], acc, G, Q => st G ∧ Q acc G
  | d :: r, acc, G, Q => st G ∧ acc.length < sizeLine ∧ turn d G fun o G' => mapB st turn r (acc ++ o.toList) G' Q
def outD (st : Gp → Prop) (turn : D → List D → Gp → (List D → Gp → Prop) → Prop) : List D → List D → Gp → (List D → Gp → Prop) → Prop
  | [], acc, G, Q => st G ∧ Q acc G
  | d :: r, acc, G, Q => st G ∧ turn d acc G fun acc' G' => outD st turn r acc' G' Q
def turn2 (g : TDG) (u : TDT) (wi1 : TDI) (g1 : TDG) (u1 : TDT) (te : TD) (vs1 : List Nat) (env : Ev) (d : D) (acc : List D) (G : Gp) (Q : List D → Gp → Prop) : Prop :=
  g d env G fun env' G3 => u env' G3 fun b G4 => if b = true then wi1 env' G4 fun items1 st1 G5 => mapB st1 (turnD g1 u1 te (wipeD env' vs1)) items1 acc G5 Q else Q acc G4
def dLc2 (wi : TDI) (g : TDG) (u : TDT) (wi1 : TDI) (g1 : TDG) (u1 : TDT) (te : TD) (vs vs1 : List Nat) : TD := fun env G Q => wi env G fun items st G1 =>
  outD st (turn2 g u wi1 g1 u1 te vs1 (wipeD env vs)) items [] G1 fun l G2 => ∀ p, G2 p = none → Q (.ref p) (up G2 p (.lst l))
theorem lc2_lf {wi wi1 : TDI} {g g1 : TDG} {u u1 : TDT} {te : TD} {vs vs1 : List Nat} {σ : L2.St} {H : Hp} {env : Ev} {G : Gp} {Q : DK} {Qv : VK}
    (rs : RSt X.K X.m H env σ) (rg : RG X.K X.m H G) (h : dLc2 wi g u wi1 g1 u1 te vs vs1 env G Q) (k : Ko X G H Q Qv) :
    tLc2 (lfI X wi) (lfV X vs g) (lfT X u) (lfI X wi1) (lfV X vs1 g1) (lfT X u1) (lf X te) vs vs1 σ H Qv :=
  ⟨env, G, _, rs, rg, h, fun items st hs0 G1 J H1 q it hh rg1 f1 z1 p np => by
    have apart : ∀ a o, H a = some o → G a = none → NoTb o → a ≠ p := fun a o e1 e2 n z => by
      have := (f1.st a o e1 e2 n).1
      rw [z, np] at this
      cases this
    have gp1 : G1 p = none := rg1.fresh np
    refine ⟨fun i m H2 => ∃ G2 acc va, RG X.K X.m H2 G2 ∧ H2 p = some (.lst va) ∧ Rvs X.K X.m H2 acc va ∧ G2 p = none ∧
      outD st (turn2 g u wi1 g1 u1 te vs1 (wipeD env vs)) (items.drop i) acc G2 (fun l G3 => ∀ p, G3 p = none → Q (.ref p) (up G3 p (.lst l))) ∧ Fr G G2 H H2 ∧ hs0 H2 ∧ i + m = items.length ∧ acc.length ≤ sizeLine,
      ⟨items.length, G1, [], [], rg1.new np, upd_same, rvs_nil, gp1, q, f1.trans (Fr.new np), it.hk _ _ _ _ rg1 (Fr.new np) hh, Nat.zero_add _, Nat.zero_le _⟩, ?_⟩
    rintro i m H2 ⟨G2, acc, va, rg2, ep, ra, gp2, q2, f2, hh2, em, la⟩
    by_cases hi : i < items.length
    · obtain ⟨d, hd, ed⟩ := drop_at hi
      rw [ed] at q2
      obtain ⟨hst, q2⟩ := q2
      refine .inr ⟨it.go i H2 G2 d rg2 hst hh2 hd, fun H3 => ∃ G3 acc3 va3, RG X.K X.m H3 G3 ∧ H3 p = some (.lst va3) ∧ Rvs X.K X.m H3 acc3 va3 ∧ G3 p = none ∧
        outD st (turn2 g u wi1 g1 u1 te vs1 (wipeD env vs)) (items.drop (i + 1)) acc3 G3 (fun l G3 => ∀ p, G3 p = none → Q (.ref p) (up G3 p (.lst l))) ∧ Fr G G3 H H3 ∧ hs0 H3 ∧ acc3.length ≤ sizeLine,
        fun H3 ⟨G3, acc3, va3, a1, a2, a3, a4, a5, a6, a7, a8⟩ => ⟨m - 1, by omega, G3, acc3, va3, a1, a2, a3, a4, a5, a6, a7, by omega, a8⟩, fun x H3 hy => ?_⟩
      obtain ⟨rg3, f3, r3⟩ := it.yld i H2 G2 d x H3 rg2 hst hh2 hd hy
      have hh3 := it.hk _ _ _ _ rg2 f3 hh2
      have f23 := f2.trans f3
      have rw3 := (rst_wipe rs vs).mono (f23.keep rg)
      refine ⟨d, wipeD env vs, G2, _, r3, rw3, rg3, q2, fun env4 G4 σ4 H4 q4 rs4 rg4 f4 hw => ⟨hw.trans (wipe_idem vs σ), env4, G4, _, rs4, rg4, q4, fun bb G5 H5 q5 rg5 f5 => ?_⟩⟩
      have f35 := f4.trans f5
      have f25 := f3.trans f35
      have ep5 := f25.at p _ ep gp2
      have hh5 := it.hk _ _ _ _ rg3 f35 hh3
      cases bb with
      | false =>
        rw [if_neg Bool.false_ne_true] at q5
        exact iteF ⟨G5, acc, va, rg5, ep5.1, ra.mono (f25.keep rg2), ep5.2, q5, f2.trans f25, hh5, la⟩
      | true =>
        rw [if_pos rfl] at q5
        have rs5 := rs4.mono (f5.keep rg4)
        have ra5 := ra.mono (f25.keep rg2)
        have f05 := f2.trans f25
        refine iteT ⟨env4, G5, _, rs5, rg5, q5, fun items1 st1 hs1 G6 J1 H6 q6 it1 hh16 rg6 f6 z6 => ?_⟩
        have ep6 := f6.at p _ ep5.1 ep5.2
        refine ⟨fun j n H7 => ∃ G7 acc7 va7, RG X.K X.m H7 G7 ∧ H7 p = some (.lst va7) ∧ Rvs X.K X.m H7 acc7 va7 ∧ G7 p = none ∧
          mapB st1 (turnD g1 u1 te (wipeD env4 vs1)) (items1.drop j) acc7 G7 (fun acc' G' => outD st (turn2 g u wi1 g1 u1 te vs1 (wipeD env vs)) (items.drop (i + 1)) acc' G' (fun l G3 => ∀ p, G3 p = none → Q (.ref p) (up G3 p (.lst l)))) ∧
          Fr G G7 H H7 ∧ hs0 H7 ∧ hs1 H7 ∧ j + n = items1.length ∧ acc7.length ≤ sizeLine ∧ RSt X.K X.m H7 env4 σ4,
          ⟨items1.length, G6, acc, va, rg6, ep6.1, ra5.mono (f6.keep rg5), ep6.2, q6, f05.trans f6, it.hk _ _ _ _ rg5 f6 hh5, hh16, Nat.zero_add _, la, rs5.mono (f6.keep rg5)⟩, ?_⟩
        rintro j n H7 ⟨G7, acc7, va7, rg7, ep7, ra7, gp7, q7, f7, hh7, hh17, en, la7, rs7⟩
        by_cases hj : j < items1.length
        · obtain ⟨d1, hd1, ed1⟩ := drop_at hj
          rw [ed1] at q7
          obtain ⟨hst1, hlt, q7⟩ := q7
          refine .inr ⟨it1.go j H7 G7 d1 rg7 hst1 hh17 hd1, fun H8 => ∃ G8 acc8 va8, RG X.K X.m H8 G8 ∧ H8 p = some (.lst va8) ∧ Rvs X.K X.m H8 acc8 va8 ∧ G8 p = none ∧
            mapB st1 (turnD g1 u1 te (wipeD env4 vs1)) (items1.drop (j + 1)) acc8 G8 (fun acc' G' => outD st (turn2 g u wi1 g1 u1 te vs1 (wipeD env vs)) (items.drop (i + 1)) acc' G' (fun l G3 => ∀ p, G3 p = none → Q (.ref p) (up G3 p (.lst l)))) ∧
            Fr G G8 H H8 ∧ hs0 H8 ∧ hs1 H8 ∧ acc8.length ≤ sizeLine ∧ RSt X.K X.m H8 env4 σ4,
            fun H8 ⟨G8, acc8, va8, a1, a2, a3, a4, a5, a6, a7, a8, a9, a10⟩ => ⟨n - 1, by omega, G8, acc8, va8, a1, a2, a3, a4, a5, a6, a7, a8, by omega, a9, a10⟩, fun x H8 hy => ?_⟩
          obtain ⟨rg8, f8, r8⟩ := it1.yld j H7 G7 d1 x H8 rg7 hst1 hh17 hd1 hy
          have rs8 := rst_wipe (rs7.mono (f8.keep rg7)) vs1
          refine ⟨d1, wipeD env4 vs1, G7, _, r8, rs8, rg8, q7, fun env9 G9 σ9 H9 q9 rs9 rg9 f9 hw => ⟨hw.trans (wipe_idem vs1 σ4), env9, G9, _, rs9, rg9, q9, fun b2 G10 H10 q10 rg10 f10 => ?_⟩⟩
          have f710 := f8.trans (f9.trans f10)
          have ep10 := f710.at p _ ep7 gp7
          have rs10 := rs7.mono (f710.keep rg7)
          have hh10 := it.hk _ _ _ _ rg7 f710 hh7
          have hh110 := it1.hk _ _ _ _ rg7 f710 hh17
          cases b2 with
          | false =>
            rw [if_neg Bool.false_ne_true] at q10
            exact iteF ⟨G10, acc7, va7, rg10, ep10.1, ra7.mono (f710.keep rg7), ep10.2, by simpa using q10, f7.trans f710, hh10, hh110, la7, rs10⟩
          | true =>
            rw [if_pos rfl] at q10
            refine iteT ⟨env9, G10, _, rs9.mono (f10.keep rg9), rg10, q10, fun y G11 v11 H11 q11 r11 rg11 f11 => ?_⟩
            have f711 := f710.trans f11
            have ep11 := f711.at p _ ep7 gp7
            have ra11 := ra7.mono (f711.keep rg7)
            obtain ⟨b1, b2, b3, b4⟩ := app_step rg11 ep11.1 ra11 ep11.2 r11 la7
            have ff := f7.trans f711
            have fl : Fr G G11 H (upd H11 p (.lst (va7 ++ [v11]))) := ⟨fun a o e1 e2 n => by
              rw [upd_ne (apart a o e1 e2 n)]
              exact ff.st a o e1 e2 n⟩
            exact ⟨va7, ep11.1, by rw [← ra7.length]; exact hlt, G11, acc7 ++ [y], va7 ++ [v11], b1, upd_same, b3, ep11.2, by simpa using q11, fl, b4 it (it.hk _ _ _ _ rg7 f711 hh7), b4 it1 (it1.hk _ _ _ _ rg7 f711 hh17), by simp; omega,
              (rs7.mono (f711.keep rg7)).mono b2⟩
        · have ei : items1.drop j = [] := List.drop_of_length_le (by omega)
          rw [ei] at q7
          obtain ⟨hst1, q7⟩ := q7
          exact .inl ⟨it1.stop j H7 G7 rg7 hst1 hh17 (by omega), G7, acc7, va7, rg7, ep7, ra7, gp7, q7, f7, hh7, la7⟩
    · have ei : items.drop i = [] := List.drop_of_length_le (by omega)
      rw [ei] at q2
      obtain ⟨hst, q2⟩ := q2
      refine .inl ⟨it.stop i H2 G2 rg2 hst hh2 (by omega), k _ _ _ _ (q2 p gp2) rv_ref (fun a o e => ?_) ⟨fun a o e1 e2 n => ?_⟩⟩
      · by_cases z : a = p
        · subst z
          rw [up_same] at e
          cases e
          exact ⟨va, ep, ra, la⟩
        · rw [up_ne z] at e
          exact rg2 a o e
      · obtain ⟨g1, g2⟩ := f2.st a o e1 e2 n
        exact ⟨g1, by rw [up_ne (apart a o e1 e2 n)]; exact g2⟩⟩
end
end DL
end
section
set_option Elab.async false
set_option linter.all false
set_option maxRecDepth 100000
set_option maxHeartbeats 4000000
/-! Defs and their calls over data; built-ins. -/
namespace DL
open PySem PySem.Spec PyProof.Rows L2

/-- a def's promise over data -/
abbrev SpD := List D → Gp → DK → Prop
def lfP (K : PySem.W.Frag) (m : Mg) (sp : SpD) : Sp := fun vs H Qv _ => ∃ ds G Q, Rvs K m H ds vs ∧ RG K m H G ∧ sp ds G Q ∧ ∀ d G' v H', Q d G' → Rv K m H' d v → RG K m H' G' → Fr G G' H H' → Qv v H'
/-- what is known of a def that is called by its name -/
structure Cal (P : Program) (w : World) (K : PySem.W.Frag) (mg : Str → Option Value) (base : Heap) (k : Nat) (x : Str) (sp : SpD) : Prop where
  ex : ∃ (f : Addr) (fd : FuncData) (ps : List Str), FnOk P w K mg base CX0 k f fd ps (lfP K ⟨mg, P, w⟩ sp) ∧ mg x = some (.ref f) ∧ PySem.W.keepIn K (.ref f) = true ∧ Binds K fd ps []
/-- .. by keywords ks behind n positional values; g orders them -/
structure CalK (P : Program) (w : World) (K : PySem.W.Frag) (mg : Str → Option Value) (base : Heap) (k : Nat) (x : Str) (ks : List Str) (g : List D → List D → List D) (sp : SpD) : Prop where
  ex : ∃ (f : Addr) (fd : FuncData) (ps : List Str) (gv : List Value → List Value → List Value) (gV : List V → List V → List V), FnOk P w K mg base CX0 k f fd ps (lfP K ⟨mg, P, w⟩ sp) ∧ mg x = some (.ref f) ∧ PySem.W.keepIn K (.ref f) = true ∧ KBinds K fd ps ks gv gV ∧
    ∀ {H : Hp} {ds es : List D} {vs us : List V}, Rvs K ⟨mg, P, w⟩ H ds vs → Rvs K ⟨mg, P, w⟩ H es us → Rvs K ⟨mg, P, w⟩ H (g ds es) (gV vs us)
theorem Cal.mono {P : Program} {w : World} {K : PySem.W.Frag} {mg : Str → Option Value} {base : Heap} {j k : Nat} {x : Str} {sp : SpD} (C : Cal P w K mg base j x sp) (h : j ≤ k) : Cal P w K mg base k x sp := by
  obtain ⟨f, fd, ps, F, a, b, c⟩ := C.ex
  exact ⟨f, fd, ps, F.mono h, a, b, c⟩
theorem Cal.imp {P : Program} {w : World} {K : PySem.W.Frag} {mg : Str → Option Value} {base : Heap} {k : Nat} {x : Str} {sp sp' : SpD} (C : Cal P w K mg base k x sp) (h : ∀ ds G Q, sp' ds G Q → sp ds G Q) : Cal P w K mg base k x sp' := by
  obtain ⟨f, fd, ps, F, a, b, c⟩ := C.ex
  exact ⟨f, fd, ps, F.imp fun vs H Q E ⟨ds, G, Q1, h1, h2, h3, h4⟩ => ⟨ds, G, Q1, h1, h2, h _ _ _ h3, h4⟩, a, b, c⟩
theorem CalK.mono {P : Program} {w : World} {K : PySem.W.Frag} {mg : Str → Option Value} {base : Heap} {j k : Nat} {x : Str} {ks : List Str} {g : List D → List D → List D} {sp : SpD} (C : CalK P w K mg base j x ks g sp) (h : j ≤ k) : CalK P w K mg base k x ks g sp := by
  obtain ⟨f, fd, ps, gv, gV, F, a, b, c, d⟩ := C.ex
  exact ⟨f, fd, ps, gv, gV, F.mono h, a, b, c, d⟩

section
variable {X : Cx} {k : Nat} {x : Str} {sp : SpD} {p pos : Pos} {e : Expr} {es : List Expr} {kws : List Keyword} {t u : TDA}
def dCall (sp : SpD) (t : TDA) : TD := fun env G Q => t env G fun ds G1 => sp ds G1 Q
theorem de_call (C : Cal X.prog X.w X.K X.mg X.base k x sp) (hr : Room k X.A) (hg : Gl X x) (ha : DA X (e :: es) t)
    (hdb : (x == ("__debug__" : Str)) = false := by decide) (he : starEach (e :: es) X.env = (false, eval e X.env) :: starEach es X.env := by rfl) (hpl : (backTo pos (starEach es X.env)).any (·.1) = false := by rfl) :
    DE X (.Call (.Name x p) (e :: es) [] pos) (dCall sp t) := by
  obtain ⟨f, fd, ps, F, hm, hk, hb⟩ := C.ex
  exact de_of (pe_call F hr hg hm hk hb .nil pass0 ha hdb he hpl) fun σ H env G Q Qv rs rg h k => ⟨env, G, _, rs, rg, h, fun ds G1 vs H1 q r rg1 f1 => by
    show lfP X.K X.m sp (vs ++ []) H1 Qv E0
    rw [List.append_nil]
    exact ⟨ds, G1, Q, r, rg1, q, k.mono f1⟩⟩
theorem de_call0 (C : Cal X.prog X.w X.K X.mg X.base k x sp) (hr : Room k X.A) (hg : Gl X x) (hdb : (x == ("__debug__" : Str)) = false := by decide) :
    DE X (.Call (.Name x p) [] [] pos) (dCall sp dNil) := by
  obtain ⟨f, fd, ps, F, hm, hk, hb⟩ := C.ex
  exact de_of (pe_call0 F hr hg hm hk hb .nil pass0 hdb) fun σ H env G Q Qv rs rg h k => ⟨[], G, Q, rvs_nil, rg, h, k⟩
/-! keywords -/
abbrev DKw (X : Cx) (kws : List Keyword) (t : TDA) : Prop := PK X kws (lfA X t)
theorem PK.mono {kws : List Keyword} {t t' : TA} (h : PK X kws t) (w : ∀ σ H Q, t' σ H Q → t σ H Q) : PK X kws t' := ⟨fun p pins s σ H Q I q => h.run p pins s σ H Q I (w _ _ _ q)⟩
theorem dk_nil : DKw X [] dNil := PK.mono pk_nil fun σ H Qv ⟨env, G, Q, rs, rg, h, k⟩ => k [] G [] H h rvs_nil rg (Fr.refl _ _)
theorem dk_cons {nm : Option Str} {kpos : Pos} {te : TD} (ha : DE X e te) (hr : DKw X kws t) : DKw X (⟨nm, e, kpos⟩ :: kws) (dCons te t) :=
  PK.mono (pk_cons ha hr) fun σ H Qv ⟨env, G, Q, rs, rg, h, k⟩ => ⟨env, G, _, rs, rg, h, fun x G1 v H1 q r rg1 f => ⟨env, G1, _, rs.mono (f.keep rg), rg1, q, fun xs G2 vs H2 q2 r2 rg2 f2 =>
    k _ G2 _ H2 q2 (rvs_cons (r.mono (f2.keep rg1)) r2) rg2 (f.trans f2)⟩⟩
def dCallK (g : List D → List D → List D) (sp : SpD) (t u : TDA) : TD := fun env G Q => t env G fun ds G1 => u env G1 fun es G2 => sp (g ds es) G2 Q
theorem de_callK {ks : List Str} {g : List D → List D → List D} (C : CalK X.prog X.w X.K X.mg X.base k x ks g sp) (hr : Room k X.A) (hg : Gl X x) (ha : DA X (e :: es) t) (hkw : DKw X kws u)
    (hall : (backToKw pos (keywordEach kws X.env)).all (·.1.isSome) = true := by rfl) (hks : (backToKw pos (keywordEach kws X.env)).filterMap (·.1) = ks := by rfl)
    (hdb : (x == ("__debug__" : Str)) = false := by decide) (he : starEach (e :: es) X.env = (false, eval e X.env) :: starEach es X.env := by rfl)
    (hpl : ((backTo pos (starEach (e :: es) X.env)).any (·.1) || (backToKw pos (keywordEach kws X.env)).any (·.1.isNone)) = false := by rfl) :
    DE X (.Call (.Name x p) (e :: es) kws pos) (dCallK g sp t u) := by
  obtain ⟨f, fd, ps, gv, gV, F, hm, hk, hb, hgg⟩ := C.ex
  exact de_of (pe_callK (E := E0) F hr hg hm hk hb pass0 ha hkw hall hks hdb he hpl) fun σ H env G Q Qv rs rg h k => ⟨env, G, _, rs, rg, h, fun ds G1 vs H1 q r rg1 f1 => ⟨env, G1, _, rs.mono (f1.keep rg), rg1, q, fun es G2 us H2 q2 r2 rg2 f2 =>
    ⟨g ds es, G2, Q, hgg (r.mono (f2.keep rg1)) r2, rg2, q2, k.mono (f1.trans f2)⟩⟩⟩
/-! a name that holds one of several defs -/
def dCallL (i : Nat) (S : Str → SpD → Prop) (t : TDA) : TD := fun env G Q => ∃ x sp, env[i]? = some (some (.gl x)) ∧ S x sp ∧ t env G fun ds G1 => sp ds G1 Q
theorem de_callL {i : Nat} {S : Str → SpD → Prop} (A : ∀ x sp, S x sp → Cal X.prog X.w X.K X.mg X.base k x sp) (hr : Room k X.A) (hN : X.N[i]? = some x) (hv : Vis X.env.scope x) (ha : DA X (e :: es) t)
    (hdb : (x == ("__debug__" : Str)) = false := by decide) (hcd : (x == ("__classdict__" : Str)) = false := by decide)
    (he : starEach (e :: es) X.env = (false, eval e X.env) :: starEach es X.env := by rfl) (hpl : (backTo pos (starEach es X.env)).any (·.1) = false := by rfl) : DE X (.Call (.Name x p) (e :: es) [] pos) (dCallL i S t) := by
  refine ⟨fun pins s σ H Qv I ⟨env, G, Q, rs, rg, ⟨y, sp, ey, hS, h⟩, k⟩ => ?_⟩
  obtain ⟨f, fd, ps, F, hm, hk, hb⟩ := (A y sp hS).ex
  obtain ⟨v, ev, rv⟩ := rs.get i _ ey
  obtain ⟨f', hm', rfl⟩ := rv_gl_inv rv
  have hm'' : X.mg y = some (.ref f') := hm'
  rw [hm] at hm''
  cases hm''
  refine (pe_callL (i := i) (E := E0) F hr hN hv hk hb .nil pass0 ha hdb hcd he hpl).run pins s σ H Qv I ⟨ev, env, G, _, rs, rg, h, fun ds G1 vs H1 q r rg1 f1 => ?_⟩
  show lfP X.K X.m sp (vs ++ []) H1 Qv E0
  rw [List.append_nil]
  exact ⟨ds, G1, Q, r, rg1, q, k.mono f1⟩
end

/-! ### a def by its body -/
def startD (N : List Str) (ds : List D) : Ev := ds.map some ++ List.replicate (N.length - ds.length) none
theorem rst_start {K : PySem.W.Frag} {m : Mg} {H : Hp} {N : List Str} {ds : List D} {vs : List V} (r : Rvs K m H ds vs) : RSt K m H (startD N ds) (L2.start N vs) := by
  have hl := r.length
  refine ⟨by unfold startD L2.start; simp [hl], fun i d e => ?_⟩
  unfold startD at e
  unfold L2.start
  by_cases hi : i < ds.length
  · rw [List.getElem?_append_left (by simpa using hi), List.getElem?_map] at e
    cases q : ds[i]? with
    | none => rw [q] at e; cases e
    | some x =>
      rw [q] at e
      cases e
      obtain ⟨v, h1, h2⟩ := r.get q
      refine ⟨v, ?_, h2⟩
      rw [List.getElem?_append_left (by simpa [← hl] using hi), List.getElem?_map, h1]
      rfl
  · rw [List.getElem?_append_right (by simpa using hi), List.getElem?_replicate] at e
    split at e <;> cases e
/-- the context of a def's body that lets nothing out -/
abbrev XF (P : Program) (w : World) (K : PySem.W.Frag) (mg : Str → Option Value) (base : Heap) (N : List Str) (qual : Str) (sc : Scope) (f : Addr) (cdv : Value) (A : Around) (outer : List Env) (s : Shared) (H : Hp) : Cx := (cxOf CX0 P w K mg base N qual sc f cdv A outer s H E0).nox
theorem fn_D {P : Program} {w : World} {K : PySem.W.Frag} {mg : Str → Option Value} {base : Heap} {x qual : Str} {params : Arguments} {body : List Stmt} {scope : Scope} {f : Addr} {fd : FuncData} {N ps : List Str} {k : Nat} {sp : SpD} {t : TDS}
    (F : FunD K x qual params body scope [] [] f fd) (S : FnScope N ps scope) (hg : mg x = some (.ref f))
    (hbind : ∀ (kV doc pm : Value) (an : Option Addr) (cdv ct : Value) (us : List Value), us.length = ps.length → bindArgs (PySem.W.fnOf x qual params body scope .none kV doc pm an cdv ct) ⟨us, []⟩ = pure (ps.zip us))
    (len : ∀ ds G Q, sp ds G Q → ds.length = ps.length)
    (hb : ∀ (cdv : Value) (A : Around) (outer : List Env) (s : Shared) (H : Hp), Room k (A.deeper (envOfC qual scope s.heap.objs.size f cdv)) → DSs (XF P w K mg base N qual scope f cdv A outer s H) body t)
    (hr : ∀ ds G Q, sp ds G Q → t { nx := fun _ G' => Q .non G', rt := Q } (startD N ds) G) : Cal P w K mg base (k + 1) x sp := by
  refine ⟨f, fd, ps, F.ok S (fun vs H Q E ⟨ds, G, Q1, h1, h2, h3, h4⟩ => h1.length ▸ len _ _ _ h3) (fun cdv A outer s H vs Q E hr' ⟨ds, G, Q1, h1, h2, h3, h4⟩ => ⟨_, PSs.nox (hb cdv A outer s H hr'), startD N ds, G, _, rst_start h1, h2, hr _ _ _ h3, ?_⟩), hg, F.kp, F.bindsN hbind⟩
  exact ⟨fun env G' σ' H' q rs rg fr => h4 .non G' _ H' q rv_non rg fr, h4, fun _ _ _ _ z => z.elim, fun _ _ _ _ z => z.elim, fun _ _ _ _ _ _ z => z.elim⟩
end DL
end
section
set_option Elab.async false
set_option linter.all false
set_option maxRecDepth 100000
set_option maxHeartbeats 4000000
/-! Subscripts, slices, built-ins, methods over data. -/
namespace DL
open PySem PySem.Spec PyProof.Rows L2

section
variable {X : Cx} {a b c e : Expr} {es : List Expr} {ta tb tc : TD} {t : TDA} {pos p : Pos}

/-! ### a[i] -/
def rIxDk : R2 := fun x y H Q => ∃ d kvs k v, x = .ref d ∧ H d = some (.dK kvs) ∧ y = kV k ∧ valV kvs k = some v ∧ Q v H
theorem ix_dk (hu : X.A.units + 1 < cLine) : IxR X rIxDk := by
  intro value slice pins s σ H x y v u Q I rx ry h hs
  obtain ⟨d, kvs, k, w, rfl, hd, ey, hv, q⟩ := h
  obtain rfl : v = Value.ref d := rx
  have g : DGet H d y (some w) := by subst ey; rw [← hv]; exact DGet.k hd
  exact tail_any (dict_typeIs I g) PySem.F.slot_dict_getitem.lookup (d_getItem hu I g ry fun w' s' I' r' => ⟨w, H, I', r', q⟩) hs
/-- what stands at a place -/
def ixD (G : Gp) : D → D → Option D
  | .tup l, .int i => atI l i
  | .str z, .int i => if z.length ≤ sizeLine then (atI z.cps.toList i).map fun c => .str ⟨#[c]⟩ else none
  | .ref p, k => match G p with
    | some (.lst l) => (match k with | .int i => atI l i | _ => none)
    | some (.fl l) => (match k with | .int i => atI l i | _ => none)
    | some (.dk kvs) => (keyOf k).bind (valK kvs)
    | _ => none
  | _, _ => none
def oIx : RD2 := fun x y G Q => ∃ v, ixD G x y = some v ∧ Q v G
theorem rvs_at {K : PySem.W.Frag} {m : Mg} {H : Hp} {l : List D} {vs : List V} {i : Int} {d : D} (r : Rvs K m H l vs) (h : atI l i = some d) : ∃ v, atI vs i = some v ∧ Rv K m H d v := by
  unfold atI at h ⊢
  rw [← r.length]
  cases e : ixN l.length i with
  | none => rw [e] at h; cases h
  | some j =>
    rw [e] at h
    exact r.get (i := j) h
def rIxA (K : PySem.W.Frag) : R2 := fun x y H Q => (rIxL K x y H Q ∨ (rIxT K x y H Q ∨ rIxS x y H Q)) ∨ rIxDk x y H Q
theorem oIx_s : OpS X oIx (rIxA X.K) := fun x y G Q v u H Qv ⟨d, hd, q⟩ rx ry rg k => by
  cases x with
  | non => cases hd
  | bl _ => cases hd
  | int _ => cases hd
  | gl _ => cases hd
  | ty _ => cases hd
  | str z =>
    cases y with
    | int i =>
      simp only [ixD] at hd
      by_cases hz : z.length ≤ sizeLine
      · rw [if_pos hz] at hd
        cases e : atI z.cps.toList i with
        | none => rw [e] at hd; cases hd
        | some c =>
          rw [e] at hd
          cases hd
          exact .inl (.inr (.inr ⟨z, i, c, rv_str_inv rx, rv_int_inv ry, hz, e, k _ G _ H q rv_str rg (Fr.refl _ _)⟩))
      · rw [if_neg hz] at hd; cases hd
    | _ => cases hd
  | tup l =>
    cases y with
    | int i =>
      obtain ⟨a, vs, rfl, h1, h2, _⟩ := rv_tup_inv rx
      obtain ⟨w, e, rw'⟩ := rvs_at h2 hd
      exact .inl (.inr (.inl ⟨a, vs, i, w, rfl, rv_int_inv ry, h1, e, k _ G _ H q rw' rg (Fr.refl _ _)⟩))
    | _ => cases hd
  | ref a =>
    rw [rv_ref_inv rx]
    simp only [ixD] at hd
    cases g : G a with
    | none => rw [g] at hd; cases hd
    | some o =>
      rw [g] at hd
      cases o with
      | lst l =>
        cases y with
        | int i =>
          obtain ⟨vs, h1, h2, _⟩ := rg a _ g
          obtain ⟨w, e, rw'⟩ := rvs_at h2 hd
          exact .inl (.inl ⟨a, vs, i, w, rfl, rv_int_inv ry, .inl (.inl h1), e, k _ G _ H q rw' rg (Fr.refl _ _)⟩)
        | _ => cases hd
      | fl l =>
        cases y with
        | int i =>
          obtain ⟨ob, vs, h1, h2, _⟩ := rg a _ g
          obtain ⟨w, e, rw'⟩ := rvs_at h2 hd
          exact .inl (.inl ⟨a, vs, i, w, rfl, rv_int_inv ry, .inl (.inr ⟨ob, h1⟩), e, k _ G _ H q rw' rg (Fr.refl _ _)⟩)
        | _ => cases hd
      | dk kvs =>
        have hd : (keyOf y).bind (valK kvs) = some d := hd
        cases ek : keyOf y with
        | none => rw [ek] at hd; cases hd
        | some kk =>
          rw [ek] at hd
          have hd : valK kvs kk = some d := hd
          obtain ⟨ks, h1, h2, _⟩ := rg a _ g
          have f := rk_find kk h2
          rw [hd] at f
          obtain ⟨w, e, rw'⟩ := f
          exact .inr ⟨a, ks, kk, w, rfl, h1, rv_key ry ek, e, k _ G _ H q rw' rg (Fr.refl _ _)⟩
      | dn kvs => cases hd
      | tb _ => cases hd
      | dnl _ _ => cases hd
theorem de_ix (hu : X.A.units + 1 < cLine) (ha : DE X a ta) (hb : DE X b tb) (hs : PlainIx b) : DE X (.Subscript a b pos) (dBin oIx ta tb) :=
  de_of (pe_ix (IxR.or ix_seq (ix_dk hu)) ha hb hs) fun σ H env G Q Qv rs rg h k => bin_lf oIx_s rs rg h k

/-! ### a[lo:hi] -/
abbrev TDO := Ev → Gp → (Option Int → Gp → Prop) → Prop
def lfO (X : Cx) (t : TDO) : TO := fun σ H Qv => ∃ env G Q, RSt X.K X.m H env σ ∧ RG X.K X.m H G ∧ t env G Q ∧ ∀ o G' H', Q o G' → RG X.K X.m H' G' → Fr G G' H H' → Qv o H'
abbrev DO_ (X : Cx) (e : Option Expr) (t : TDO) : Prop := PO X e (lfO X t)
theorem PO.mono {e : Option Expr} {t t' : TO} (h : PO X e t) (w : ∀ σ H Q, t' σ H Q → t σ H Q) : PO X e t' := ⟨fun pins s σ H Q I q => h.run pins s σ H Q I (w _ _ _ q)⟩
def doNone : TDO := fun _ G Q => Q none G
def doSome (ta : TD) : TDO := fun env G Q => ta env G fun x G1 => ∃ i, x = .int i ∧ Q (some i) G1
theorem do_none : DO_ X none doNone := PO.mono po_none fun σ H Qv ⟨env, G, Q, rs, rg, h, k⟩ => k _ G H h rg (Fr.refl _ _)
theorem do_some (ha : DE X a ta) : DO_ X (some a) (doSome ta) := PO.mono (po_some ha) fun σ H Qv ⟨env, G, Q, rs, rg, h, k⟩ => ⟨env, G, _, rs, rg, h, fun x G1 v H1 ⟨i, e, q⟩ r rg1 f => by
  subst e
  exact ⟨i, rv_int_inv r, k _ G1 H1 q rg1 f⟩⟩
/-- the items of a slice -/
def cutD {α : Type} (xs : List α) (lo hi : Option Int) : List α := (xs.drop (HT.sIx xs.length 0 lo)).take (HT.sIx xs.length xs.length hi - HT.sIx xs.length 0 lo)
theorem cutD_length {α : Type} (xs : List α) (lo hi : Option Int) : (cutD xs lo hi).length ≤ xs.length := by
  unfold cutD
  rw [List.length_take, List.length_drop]
  omega
theorem rvs_cut {K : PySem.W.Frag} {m : Mg} {H : Hp} {l : List D} {vs : List V} (r : Rvs K m H l vs) (lo hi : Option Int) : Rvs K m H (cutD l lo hi) (cutV vs lo hi) := by
  unfold cutD cutV
  rw [← r.length]
  exact (r.drop _).take _
inductive SlD (G : Gp) (lo hi : Option Int) : D → DK → Prop where
  | tup {l : List D} {Q : DK} (q : Q (.tup (cutD l lo hi)) G) : SlD G lo hi (.tup l) Q
  | lst {a : Addr} {l : List D} {Q : DK} (h : lstAt G a = some l) (q : ∀ p, G p = none → Q (.ref p) (up G p (.lst (cutD l lo hi)))) : SlD G lo hi (.ref a) Q
def dSl (ta : TD) (tl th : TDO) : TD := fun env G Q => ta env G fun x G1 => tl env G1 fun lo G2 => th env G2 fun hi G3 => SlD G3 lo hi x Q
def rSlAny (K : PySem.W.Frag) : V → Option Int → Option Int → Hp → VK → Prop := fun x lo hi H Q => rSlL K x lo hi H Q ∨ rSlA K x lo hi H Q
theorem cut_whole {l : List D} {lo hi : Option Int} (h : HT.sIx l.length 0 lo = 0 ∧ HT.sIx l.length l.length hi = l.length) : cutD l lo hi = l := by
  unfold cutD
  rw [h.1, h.2, List.drop_zero, Nat.sub_zero, List.take_length]
theorem de_slice {lo hi : Option Expr} {tl th : TDO} {p2 : Pos} (ha : DE X a ta) (hl : DO_ X lo tl) (hh : DO_ X hi th) : DE X (.Subscript a (.Slice lo hi none p2) pos) (dSl ta tl th) :=
  de_of (pe_slice (SlR.or sl_list sl_tupA) ha hl hh) fun σ H env G Q Qv rs rg h k => ⟨env, G, _, rs, rg, h, fun x G1 v H1 q r rg1 f1 => ⟨env, G1, _, rs.mono (f1.keep rg), rg1, q, fun l0 G2 H2 q2 rg2 f2 =>
    ⟨env, G2, _, rs.mono ((f1.trans f2).keep rg), rg2, q2, fun h0 G3 H3 q3 rg3 f3 => by
      have f23 := f2.trans f3
      have f := f1.trans f23
      have r3 := r.mono (f23.keep rg1)
      cases q3 with
      | @tup l _ q =>
        obtain ⟨a, vs, rfl, h1, h2, h3⟩ := rv_tup_inv r3
        refine .inr ⟨a, vs, rfl, h1, fun hw => ?_, fun hw p np => ?_⟩
        · rw [← h2.length] at hw
          rw [cut_whole hw] at q
          exact k _ G3 _ H3 q (rv_tup h1 h2 h3) rg3 f
        · exact k _ G3 _ _ q (rv_tup (.inl (.inl upd_same)) ((rvs_cut h2 l0 h0).mono (keep_new np)) (Nat.le_trans (cutD_length l l0 h0) h3)) (rg3.new np) (f.trans (Fr.new np))
      | @lst a l _ hl q =>
        obtain ⟨vs, h1, h2, h3⟩ := rg3.lst hl
        rw [rv_ref_inv r3]
        refine .inl ⟨_, vs, rfl, h1, fun p np => ?_⟩
        exact k _ _ _ _ (q p (rg3.fresh np)) rv_ref (new_lst rg3 np (rvs_cut h2 l0 h0) (Nat.le_trans (cutD_length l l0 h0) h3)) (f.trans (Fr.newS np))⟩⟩⟩
/-- xs[::-1] of a list -/
def dRevL (ta : TD) : TD := fun env G Q => ta env G fun x G1 => ∃ a l, x = .ref a ∧ lstAt G1 a = some l ∧ ∀ p, G1 p = none → Q (.ref p) (up G1 p (.lst l.reverse))
theorem de_revL {k : Nat} {p1 p2 p3 : Pos} (ha : DE X a ta) : DE X (.Subscript a (.Slice none none (some (.UnaryOp .USub (.Constant (.int 1) k p1) p2)) p3) pos) (dRevL ta) :=
  de_of (pe_revL ha) fun σ H env G Q Qv rs rg h k => ⟨env, G, _, rs, rg, h, fun x G1 v H1 ⟨a, l, e, hl, q⟩ r rg1 f => by
    subst e
    obtain ⟨vs, h1, h2, h3⟩ := rg1.lst hl
    rw [rv_ref_inv r]
    exact ⟨_, vs, rfl, h1, fun p np => k _ _ _ _ (q p (rg1.fresh np)) rv_ref (new_lst rg1 np h2.reverse (by rw [List.length_reverse]; exact h3)) (f.trans (Fr.newS np))⟩⟩

/-! ### calls of built-ins -/
abbrev OC := List D → Gp → DK → Prop
def CaS (X : Cx) (oc : OC) (r : List V → Hp → VK → Prop) : Prop := ∀ ds G Q vs H Qv, oc ds G Q → Rvs X.K X.m H ds vs → RG X.K X.m H G → Ko X G H Q Qv → r vs H Qv
theorem CallR.or {f : Value} {r r' : List V → Hp → VK → Prop} (h : CallR X f r) (h' : CallR X f r') : CallR X f (fun vs H Q => r vs H Q ∨ r' vs H Q) := fun pins s σ H vs us Q I rv q =>
  q.elim (fun q => h pins s σ H vs us Q I rv q) fun q => h' pins s σ H vs us Q I rv q
def dB (oc : OC) (t : TDA) : TD := fun env G Q => t env G fun ds G1 => oc ds G1 Q
theorem dB_lf {oc : OC} {r : List V → Hp → VK → Prop} (hs : CaS X oc r) {σ : L2.St} {H : Hp} {env : Ev} {G : Gp} {Q : DK} {Qv : VK} (rs : RSt X.K X.m H env σ) (rg : RG X.K X.m H G) (h : dB oc t env G Q) (k : Ko X G H Q Qv) : tCB r (lfA X t) σ H Qv :=
  ⟨env, G, _, rs, rg, h, fun ds G1 vs H1 q rv rg1 f => hs ds G1 Q vs H1 Qv q rv rg1 (k.mono f)⟩
theorem de_B {id : String} {x : Str} {oc : OC} {r : List V → Hp → VK → Prop} (hc : CallR X (.builtin id) r) (hs : CaS X oc r) (hg : Gl X x) (hm : X.mg x = none) (hv : bootBuiltins x = some (.builtin id)) (ha : DA X (e :: es) t) (hn : x ≠ "__name__" := by decide) (hdb : (x == ("__debug__" : Str)) = false := by decide)
    (he : starEach (e :: es) X.env = (false, eval e X.env) :: starEach es X.env := by rfl) (hpl : (backTo pos (starEach es X.env)).any (·.1) = false := by rfl) : DE X (.Call (.Name x p) (e :: es) [] pos) (dB oc t) :=
  de_of (pe_callB hc hg hm hv ha hn hdb he hpl) fun σ H env G Q Qv rs rg h k => dB_lf hs rs rg h k
theorem de_Ty {T : String} {x : Str} {oc : OC} {r : List V → Hp → VK → Prop} (hc : CallR X (.type T) r) (hs : CaS X oc r) (hg : Gl X x) (hm : X.mg x = none) (hv : bootBuiltins x = some (.type T)) (ha : DA X (e :: es) t) (hn : x ≠ "__name__" := by decide) (hdb : (x == ("__debug__" : Str)) = false := by decide)
    (he : starEach (e :: es) X.env = (false, eval e X.env) :: starEach es X.env := by rfl) (hpl : (backTo pos (starEach es X.env)).any (·.1) = false := by rfl) : DE X (.Call (.Name x p) (e :: es) [] pos) (dB oc t) :=
  de_of (pe_callTy hc hg hm hv ha hn hdb he hpl) fun σ H env G Q Qv rs rg h k => dB_lf hs rs rg h k

theorem one_inv {K : PySem.W.Frag} {m : Mg} {H : Hp} {d : D} {vs : List V} (r : Rvs K m H [d] vs) : ∃ v, vs = [v] ∧ Rv K m H d v := by
  obtain ⟨v, ws, rfl, r1, r2⟩ := rvs_cons_inv r
  rw [rvs_nil_inv r2]
  exact ⟨v, rfl, r1⟩
theorem two_inv {K : PySem.W.Frag} {m : Mg} {H : Hp} {d e : D} {vs : List V} (r : Rvs K m H [d, e] vs) : ∃ v w, vs = [v, w] ∧ Rv K m H d v ∧ Rv K m H e w := by
  obtain ⟨v, ws, rfl, r1, r2⟩ := rvs_cons_inv r
  obtain ⟨w, rfl, r3⟩ := one_inv r2
  exact ⟨v, w, rfl, r1, r3⟩
/-! len -/
def lenD (G : Gp) : D → Option Nat
  | .tup l => some l.length
  | .str z => if z.length ≤ sizeLine then some z.length else none
  | .ref a => match G a with
    | some (.lst l) => some l.length
    | some (.fl l) => some l.length
    | some (.dk kvs) => some kvs.length
    | _ => none
  | _ => none
def oLen : OC := fun ds G Q => ∃ d n, ds = [d] ∧ lenD G d = some n ∧ Q (.int n) G
def rLenA (K : PySem.W.Frag) : List V → Hp → VK → Prop := fun xs H Q => (∃ x n, xs = [x] ∧ LenV K x H n ∧ Q (.int n) H) ∨ (∃ a kvs, xs = [V.ref a] ∧ H a = some (.dK kvs) ∧ Q (.int kvs.length) H)
theorem oLen_s : CaS X oLen (rLenA X.K) := fun ds G Q vs H Qv ⟨d, n, e, hn, q⟩ r rg k => by
  subst e
  obtain ⟨v, rfl, rv⟩ := one_inv r
  cases d with
  | non => cases hn
  | bl _ => cases hn
  | int _ => cases hn
  | gl _ => cases hn
  | ty _ => cases hn
  | str z =>
    simp only [lenD] at hn
    by_cases hz : z.length ≤ sizeLine
    · rw [if_pos hz] at hn
      cases hn
      rw [rv_str_inv rv]
      exact .inl ⟨_, _, rfl, ⟨hz, rfl⟩, k _ G _ H q rv_int rg (Fr.refl _ _)⟩
    · rw [if_neg hz] at hn; cases hn
  | tup l =>
    cases hn
    obtain ⟨a, vs, rfl, h1, h2, _⟩ := rv_tup_inv rv
    exact .inl ⟨_, l.length, rfl, .inr ⟨vs, h1, h2.length⟩, k _ G _ H q rv_int rg (Fr.refl _ _)⟩
  | ref a =>
    rw [rv_ref_inv rv]
    simp only [lenD] at hn
    cases g : G a with
    | none => rw [g] at hn; cases hn
    | some o =>
      rw [g] at hn
      cases o with
      | lst l =>
        cases hn
        obtain ⟨vs, h1, h2, _⟩ := rg a _ g
        exact .inl ⟨_, l.length, rfl, .inl ⟨vs, .inl (.inl h1), h2.length⟩, k _ G _ H q rv_int rg (Fr.refl _ _)⟩
      | fl l =>
        cases hn
        obtain ⟨ob, vs, h1, h2, _⟩ := rg a _ g
        exact .inl ⟨_, l.length, rfl, .inl ⟨vs, .inl (.inr ⟨ob, h1⟩), h2.length⟩, k _ G _ H q rv_int rg (Fr.refl _ _)⟩
      | dk kvs =>
        cases hn
        obtain ⟨ks, h1, h2, _⟩ := rg a _ g
        refine .inr ⟨a, ks, rfl, h1, ?_⟩
        rw [← h2.length]
        exact k _ G _ H q rv_int rg (Fr.refl _ _)
      | dn kvs => cases hn
      | tb _ => cases hn
      | dnl _ _ => cases hn
theorem call_lenA : CallR X (.builtin "len") (rLenA X.K) := CallR.or call_len call_lenD
/-! isinstance -/
def tyD (G : Gp) : D → Option String
  | .non => some "NoneType"
  | .bl _ => some "bool"
  | .int _ => some "int"
  | .str _ => some "str"
  | .tup _ => some "tuple"
  | .ref a => match G a with
    | some (.lst _) => some "list"
    | some (.fl _) => some "list"
    | some (.dk _) => some "dict"
    | _ => none
  | _ => none
def oIsi : OC := fun ds G Q => ∃ d n t b, ds = [d, .ty n] ∧ tyD G d = some t ∧ kitB t n = some b ∧ Q (.bl b) G
theorem sqT_ty {H : Hp} {a : Addr} {vs : List V} (h : SqT X.K H a vs) : TyX X.K H (.ref a) (.type "tuple") := by
  rcases h with (h | ⟨o, h⟩) | ⟨o, its, n, h1, h2, _⟩
  · exact .base (.tup h)
  · exact .fTuple h
  · exact .kTuple h1 h2
theorem oIsi_s : CaS X oIsi (rIsi X.K) := fun ds G Q vs H Qv ⟨d, n, t, b, e, ht, hb, q⟩ r rg k => by
  subst e
  obtain ⟨v, w, rfl, rv, rn⟩ := two_inv r
  rw [rv_ty_inv rn]
  have fin : Qv (.bl b) H := k _ G _ H q rv_bl rg (Fr.refl _ _)
  cases d with
  | gl _ => cases ht
  | ty _ => cases ht
  | non => cases ht; rw [rv_non_inv rv]; exact ⟨_, _, _, _, b, rfl, .ty n, .base .non, kit_ty hb, fin⟩
  | bl _ => cases ht; rw [rv_bl_inv rv]; exact ⟨_, _, _, _, b, rfl, .ty n, .base (.bl _), kit_ty hb, fin⟩
  | int _ => cases ht; rw [rv_int_inv rv]; exact ⟨_, _, _, _, b, rfl, .ty n, .base (.int _), kit_ty hb, fin⟩
  | str _ => cases ht; rw [rv_str_inv rv]; exact ⟨_, _, _, _, b, rfl, .ty n, .base (.str _), kit_ty hb, fin⟩
  | tup l =>
    cases ht
    obtain ⟨a, vs, rfl, h1, h2, _⟩ := rv_tup_inv rv
    exact ⟨_, _, _, _, b, rfl, .ty n, sqT_ty h1, kit_ty hb, fin⟩
  | ref a =>
    rw [rv_ref_inv rv]
    simp only [tyD] at ht
    cases g : G a with
    | none => rw [g] at ht; cases ht
    | some o =>
      rw [g] at ht
      cases o with
      | lst l =>
        cases ht
        obtain ⟨vs, h1, h2, _⟩ := rg a _ g
        exact ⟨_, _, _, _, b, rfl, .ty n, .base (.lst h1), kit_ty hb, fin⟩
      | fl l =>
        cases ht
        obtain ⟨ob, vs, h1, h2, _⟩ := rg a _ g
        exact ⟨_, _, _, _, b, rfl, .ty n, .base (.frz h1), kit_ty hb, fin⟩
      | dk kvs =>
        cases ht
        obtain ⟨ks, h1, h2, _⟩ := rg a _ g
        exact ⟨_, _, _, _, b, rfl, .ty n, .base (.dK h1), kit_ty hb, fin⟩
      | dn kvs => cases ht
      | tb _ => cases ht
      | dnl _ _ => cases ht
end
end DL
end
section
set_option Elab.async false
set_option linter.all false
set_option maxRecDepth 100000
set_option maxHeartbeats 4000000
/-! More built-ins: sequences made, all, any, min, max, sum, sorted; membership; order of tuples. -/
namespace DL
open PySem PySem.Spec PyProof.Rows L2
/-- the items of a tuple or a list -/
def seqD (G : Gp) : D → Option (List D)
  | .tup l => some l
  | .ref a => lstAt G a
  | _ => none
section
variable {X : Cx} {a b c e : Expr} {es : List Expr} {ta tb tc : TD} {t : TDA} {pos p : Pos}
theorem seqD_at {G : Gp} {H : Hp} {d : D} {l : List D} {v : V} (rg : RG X.K X.m H G) (r : Rv X.K X.m H d v) (h : seqD G d = some l) : ∃ p vs, v = .ref p ∧ (SqL X.K H p vs ∨ SqT X.K H p vs) ∧ Rvs X.K X.m H l vs ∧ l.length ≤ sizeLine := by
  cases d with
  | tup m =>
    cases h
    obtain ⟨a, vs, rfl, h1, h2, h3⟩ := rv_tup_inv r
    exact ⟨a, vs, rfl, .inr h1, h2, h3⟩
  | ref a =>
    obtain ⟨vs, h1, h2, h3⟩ := rg.lst h
    exact ⟨a, vs, rv_ref_inv r, .inl h1, h2, h3⟩
  | _ => cases h
/-! list(..), tuple(..) -/
def oListOf : OC := fun ds G Q => ∃ d l, ds = [d] ∧ seqD G d = some l ∧ ∀ p, G p = none → Q (.ref p) (up G p (.lst l))
theorem oListOf_s : CaS X oListOf (fun xs H Q => ∃ p ys, xs = [.ref p] ∧ (SqL X.K H p ys ∨ SqT X.K H p ys) ∧ ∀ l, H l = none → Q (.ref l) (upd H l (.lst ys))) := fun ds G Q vs H Qv ⟨d, l, e, hl, q⟩ r rg k => by
  subst e
  obtain ⟨v, rfl, rv⟩ := one_inv r
  obtain ⟨p, ws, rfl, h1, h2, h3⟩ := seqD_at rg rv hl
  exact ⟨p, ws, rfl, h1, fun q' nq => k _ _ _ _ (q q' (rg.fresh nq)) rv_ref (new_lst rg nq h2 h3) (Fr.newS nq)⟩
def oTupOf : OC := fun ds G Q => ∃ d l, ds = [d] ∧ seqD G d = some l ∧ Q (.tup l) G
theorem oTupOf_s : CaS X oTupOf (fun xs H Q => ∃ p ys, xs = [.ref p] ∧ ((SqL X.K H p ys ∧ ∀ l, H l = none → Q (.ref l) (upd H l (.tup ys))) ∨ (SqT X.K H p ys ∧ Q (.ref p) H))) := fun ds G Q vs H Qv ⟨d, l, e, hl, q⟩ r rg k => by
  subst e
  obtain ⟨v, rfl, rv⟩ := one_inv r
  obtain ⟨p, ws, rfl, h1, h2, h3⟩ := seqD_at rg rv hl
  refine ⟨p, ws, rfl, ?_⟩
  rcases h1 with h1 | h1
  · exact .inl ⟨h1, fun q' nq => k _ _ _ _ q (rv_tup (.inl (.inl upd_same)) (h2.mono (keep_new nq)) h3) (rg.new nq) (Fr.new nq)⟩
  · exact .inr ⟨h1, k _ _ _ _ q (rv_tup h1 h2 h3) rg (Fr.refl _ _)⟩
/-! all, any -/
theorem rvs_bools : ∀ {bs : List Bool} {vs : List V} {H : Hp}, Rvs X.K X.m H (bs.map D.bl) vs → vs = bs.map V.bl
  | [], _, _, r => rvs_nil_inv r
  | b :: bs, _, _, r => by
    obtain ⟨v, ws, rfl, r1, r2⟩ := rvs_cons_inv r
    rw [rv_bl_inv r1, rvs_bools r2]
    rfl
theorem rvs_ints : ∀ {bs : List Int} {vs : List V} {H : Hp}, Rvs X.K X.m H (bs.map D.int) vs → vs = bs.map V.int
  | [], _, _, r => rvs_nil_inv r
  | b :: bs, _, _, r => by
    obtain ⟨v, ws, rfl, r1, r2⟩ := rvs_cons_inv r
    rw [rv_int_inv r1, rvs_ints r2]
    rfl
def oAll : OC := fun ds G Q => ∃ (a : Addr) (bs : List Bool), ds = [.ref a] ∧ lstAt G a = some (bs.map D.bl) ∧ Q (.bl (bs.all id)) G
def oAny : OC := fun ds G Q => ∃ (a : Addr) (bs : List Bool), ds = [.ref a] ∧ lstAt G a = some (bs.map D.bl) ∧ Q (.bl (bs.any id)) G
theorem oAll_s : CaS X oAll (rAll X.K) := fun ds G Q vs H Qv ⟨a, bs, e, hl, q⟩ r rg k => by
  subst e
  obtain ⟨v, rfl, rv⟩ := one_inv r
  rw [rv_ref_inv rv]
  obtain ⟨ws, h1, h2, _⟩ := rg.lst hl
  rw [rvs_bools h2] at h1
  exact ⟨_, bs, rfl, h1, k _ G _ H q rv_bl rg (Fr.refl _ _)⟩
theorem oAny_s : CaS X oAny (rAny X.K) := fun ds G Q vs H Qv ⟨a, bs, e, hl, q⟩ r rg k => by
  subst e
  obtain ⟨v, rfl, rv⟩ := one_inv r
  rw [rv_ref_inv rv]
  obtain ⟨ws, h1, h2, _⟩ := rg.lst hl
  rw [rvs_bools h2] at h1
  exact ⟨_, bs, rfl, h1, k _ G _ H q rv_bl rg (Fr.refl _ _)⟩
/-! min, max, sum of a list of ints; max(i, j), min(i, j) -/
def oMin : OC := fun ds G Q => ∃ (a : Addr) (bs : List Int), ds = [.ref a] ∧ lstAt G a = some (bs.map D.int) ∧ 0 < bs.length ∧ ∀ m, m ∈ bs → (∀ y, y ∈ bs → m ≤ y) → Q (.int m) G
theorem oMin_s : CaS X oMin (rMin X.K) := fun ds G Q vs H Qv ⟨a, bs, e, hl, z, q⟩ r rg k => by
  subst e
  obtain ⟨v, rfl, rv⟩ := one_inv r
  rw [rv_ref_inv rv]
  obtain ⟨ws, h1, h2, _⟩ := rg.lst hl
  rw [rvs_ints h2] at h1
  exact ⟨_, bs, rfl, h1, z, fun m m1 m2 => k _ G _ H (q m m1 m2) rv_int rg (Fr.refl _ _)⟩
def oMax : OC := fun ds G Q => ∃ (a : Addr) (bs : List Int), ds = [.ref a] ∧ lstAt G a = some (bs.map D.int) ∧ 0 < bs.length ∧ ∀ m, m ∈ bs → (∀ y, y ∈ bs → y ≤ m) → Q (.int m) G
theorem oMax_s : CaS X oMax (rMax X.K) := fun ds G Q vs H Qv ⟨a, bs, e, hl, z, q⟩ r rg k => by
  subst e
  obtain ⟨v, rfl, rv⟩ := one_inv r
  rw [rv_ref_inv rv]
  obtain ⟨ws, h1, h2, _⟩ := rg.lst hl
  rw [rvs_ints h2] at h1
  exact ⟨_, bs, rfl, h1, z, fun m m1 m2 => k _ G _ H (q m m1 m2) rv_int rg (Fr.refl _ _)⟩
def oSum : OC := fun ds G Q => ∃ (a : Addr) (bs : List Int), ds = [.ref a] ∧ lstAt G a = some (bs.map D.int) ∧ Q (.int bs.sum) G
theorem oSum_s : CaS X oSum (rSum X.K) := fun ds G Q vs H Qv ⟨a, bs, e, hl, q⟩ r rg k => by
  subst e
  obtain ⟨v, rfl, rv⟩ := one_inv r
  rw [rv_ref_inv rv]
  obtain ⟨ws, h1, h2, _⟩ := rg.lst hl
  rw [rvs_ints h2] at h1
  exact ⟨_, bs, rfl, h1, k _ G _ H q rv_int rg (Fr.refl _ _)⟩
def oMax2 : OC := fun ds G Q => ∃ i j, ds = [.int i, .int j] ∧ Q (.int (if j > i then j else i)) G
theorem oMax2_s : CaS X oMax2 (fun xs H Q => ∃ i j, xs = [.int i, .int j] ∧ Q (.int (if j > i then j else i)) H) := fun ds G Q vs H Qv ⟨i, j, e, q⟩ r rg k => by
  subst e
  obtain ⟨v, w, rfl, rv, rw'⟩ := two_inv r
  rw [rv_int_inv rv, rv_int_inv rw']
  exact ⟨i, j, rfl, k _ G _ H q rv_int rg (Fr.refl _ _)⟩
def oMin2 : OC := fun ds G Q => ∃ i j, ds = [.int i, .int j] ∧ Q (.int (if j < i then j else i)) G
theorem oMin2_s : CaS X oMin2 (fun xs H Q => ∃ i j, xs = [.int i, .int j] ∧ Q (.int (if j < i then j else i)) H) := fun ds G Q vs H Qv ⟨i, j, e, q⟩ r rg k => by
  subst e
  obtain ⟨v, w, rfl, rv, rw'⟩ := two_inv r
  rw [rv_int_inv rv, rv_int_inv rw']
  exact ⟨i, j, rfl, k _ G _ H q rv_int rg (Fr.refl _ _)⟩
/-! int(x) -/
def oInt : OC := fun ds G Q => (∃ i, ds = [.int i] ∧ Q (.int i) G) ∨ ∃ b, ds = [.bl b] ∧ Q (.int (if b then 1 else 0)) G
theorem oInt_s : CaS X oInt (fun xs H Q => (∃ i, xs = [.int i] ∧ Q (.int i) H) ∨ ∃ k, xs = [.bl k] ∧ Q (.int (if k then 1 else 0)) H) := fun ds G Q vs H Qv h r rg k => by
  rcases h with ⟨i, e, q⟩ | ⟨i, e, q⟩
  · subst e
    obtain ⟨v, rfl, rv⟩ := one_inv r
    rw [rv_int_inv rv]
    exact .inl ⟨i, rfl, k _ G _ H q rv_int rg (Fr.refl _ _)⟩
  · subst e
    obtain ⟨v, rfl, rv⟩ := one_inv r
    rw [rv_bl_inv rv]
    exact .inr ⟨i, rfl, k _ G _ H q rv_int rg (Fr.refl _ _)⟩

/-! ### sorted -/
def leD (x y : D) : Bool := !ltD y x
def rSortA (K : PySem.W.Frag) (m : Mg) : List V → Hp → VK → Prop := fun vs H Q => ∃ (a : Addr) (ws : List V) (l : List D), vs = [.ref a] ∧ SqL K H a ws ∧ Rvs K m H l ws ∧ (∀ d ∈ l, Okd 8 d) ∧ (∀ d ∈ l, ∀ e ∈ l, PySem.W.alike d.toP e.toP = true) ∧
  ((∀ d ∈ l, ∃ x r, d = .tup (x :: r)) ∨ ∀ d ∈ l, d ≠ .non ∧ ∀ r, d ≠ .tup r) ∧ ∀ us p, H p = none → Rvs K m H (l.mergeSort leD) us → Q (.ref p) (upd H p (.lst us))
theorem each_of {K : PySem.W.Frag} {m : Mg} {H : Hp} : ∀ {l : List D} {ws : List V} {its : List Value}, Rvs K m H l ws → Vals ws its → PySem.W.EachIs (fun (u : Value) (d : D) => ∃ v, RelV v u ∧ Rv K m H d v) its l
  | [], _, _, r, q => by
    rw [rvs_nil_inv r] at q
    cases q
    exact .nil
  | d :: l, _, _, r, q => by
    obtain ⟨v, ws, rfl, r1, r2⟩ := rvs_cons_inv r
    cases q with
    | cons h t => exact .cons ⟨v, h, r1⟩ (each_of r2 t)
theorem each_back {K : PySem.W.Frag} {m : Mg} {H : Hp} : ∀ {l : List D} {its : List Value}, PySem.W.EachIs (fun (u : Value) (d : D) => ∃ v, RelV v u ∧ Rv K m H d v) its l → ∃ ws, Rvs K m H l ws ∧ Vals ws its
  | _, _, .nil => ⟨[], rvs_nil, .nil⟩
  | _, _, .cons ⟨v, h, r⟩ t => by
    obtain ⟨ws, h1, h2⟩ := each_back t
    exact ⟨v :: ws, rvs_cons r h1, .cons h h2⟩
theorem each_reads {pins : List (Addr × Obj)} {σ : L2.St} {H : Hp} {s : Shared} (I : Inv X pins σ H s) : ∀ {l : List D} {its : List Value}, (∀ d ∈ l, Okd 8 d) → PySem.W.EachIs (fun (u : Value) (d : D) => ∃ v, RelV v u ∧ Rv X.K X.m H d v) its l →
    PySem.W.EachIs (fun (u : Value) (d : D) => ∃ as, Reads s.heap u d.toP as) its l
  | _, _, _, .nil => .nil
  | d :: l, _, ho, .cons ⟨v, h, r⟩ t => .cons (Dp.reads I _ v _ (rv_dp 8 d v (ho d List.mem_cons_self) r) h) (each_reads I (fun e he => ho e (List.mem_cons_of_mem _ he)) t)
theorem le_eq : leD = PySem.W.dataLe false D.toP := by
  funext x y
  unfold leD ltD
  rw [PySem.W.dataLe_eq]
  rfl
theorem cr_sortA (hu : X.A.units + 64 < cLine) : CallR X (.builtin "sorted") (rSortA X.K X.m) := by
  intro pins s σ H vs us Q I r h
  obtain ⟨a, ws, l, rfl, hs, hr, ho, hal, hso, q⟩ := h
  obtain ⟨u, rfl, ru⟩ := vals1 r
  obtain rfl : u = Value.ref a := ru
  obtain ⟨its, rv, hl, hz⟩ := I.list hs
  have ea := each_of hr rv
  have el := ea.length
  refine PySem.W.sorted_data (R := fun (u : Value) (d : D) => ∃ v, RelV v u ∧ Rv X.K X.m H d v) (enc := D.toP) (vs := its) (bs := l) hl.isList ea (each_reads I ho ea) ?_ ?_ (by rw [← el, ← rv.length]; exact hz) (fun b hb => ?_) fun out h1 h2 => ?_
  · intro d hd d' hd'
    obtain ⟨x, hx, rfl⟩ := List.mem_map.mp hd
    obtain ⟨y, hy, rfl⟩ := List.mem_map.mp hd'
    exact hal x hx y hy
  · rcases hso with hso | hso
    · refine .inl fun d hd => ?_
      obtain ⟨x, hx, rfl⟩ := List.mem_map.mp hd
      obtain ⟨y, r, rfl⟩ := hso x hx
      rw [D.toP, toPs]
      exact ⟨_, _, rfl⟩
    · refine .inr fun d hd => ?_
      obtain ⟨x, hx, rfl⟩ := List.mem_map.mp hd
      obtain ⟨n1, n2⟩ := hso x hx
      refine ⟨toP_ne n1, fun xs e => ?_⟩
      cases x <;> rw [D.toP] at e <;> first | cases e | skip
      exact n2 _ rfl
  · have := (okd_plain 8 b (ho b hb)).2
    omega
  · rw [← le_eq] at h2
    obtain ⟨us, g1, g2⟩ := each_back h2
    have kp : ∀ b o, s.heap.get? b = some o → (sortedAll s.heap its out.toArray).get? b = some o := fun b o e => sortedAll_old e
    obtain ⟨n, hn⟩ := sortedAll_at s.heap its out.toArray
    have np : H (s.heap.objs.size + 1) = none := I.hok.fresh (Nat.le_succ _)
    have zz : us.length ≤ sizeLine := by
      rw [← g1.length, List.length_mergeSort, ← el, ← rv.length]
      exact hz
    refine ⟨.ref (s.heap.objs.size + 1), upd H (s.heap.objs.size + 1) (.lst us), I.laid (t' := s.toks) kp (Nat.le_succ _) ⟨zz, out, n, g2, hn⟩, rfl, q us _ np g1⟩
def oSorted : OC := fun ds G Q => ∃ a l, ds = [.ref a] ∧ lstAt G a = some l ∧ (∀ d ∈ l, Okd 8 d) ∧ (∀ d ∈ l, ∀ e ∈ l, PySem.W.alike d.toP e.toP = true) ∧
  ((∀ d ∈ l, ∃ x r, d = .tup (x :: r)) ∨ ∀ d ∈ l, d ≠ .non ∧ ∀ r, d ≠ .tup r) ∧ ∀ p, G p = none → Q (.ref p) (up G p (.lst (l.mergeSort leD)))
theorem oSorted_s : CaS X oSorted (rSortA X.K X.m) := fun ds G Q vs H Qv ⟨a, l, e, hl, h1, h2, h3, q⟩ r rg k => by
  subst e
  obtain ⟨v, rfl, rv⟩ := one_inv r
  rw [rv_ref_inv rv]
  obtain ⟨ws, g1, g2, g3⟩ := rg.lst hl
  exact ⟨_, ws, l, rfl, g1, g2, h1, h2, h3, fun us p np ru => k _ _ _ _ (q p (rg.fresh np)) rv_ref (new_lst rg np ru (by rw [List.length_mergeSort]; exact g3)) (Fr.newS np)⟩

/-! ### in -/
inductive InS (G : Gp) : D → D → Bool → Prop where
  | tup {x : D} {l : List D} (h : Okd 8 x) (hl : ∀ d ∈ l, Okd 8 d) : InS G x (.tup l) (l.any fun y => PyData.eqv y.toP x.toP)
  | lst {x : D} {a : Addr} {l : List D} (e : lstAt G a = some l) (h : Okd 8 x) (hl : ∀ d ∈ l, Okd 8 d) : InS G x (.ref a) (l.any fun y => PyData.eqv y.toP x.toP)
  | dk {x : D} {a : Addr} {kvs : List (Key × D)} {k : Key} (e : G a = some (.dk kvs)) (h : keyOf x = some k) : InS G x (.ref a) (valK kvs k).isSome
  | str {x : Str} {z : Str} : InS G (.str x) (.str z) (!(Builtin.Str.occurrences z x 0 z.length 1).isEmpty)
def oIn : RD2 := fun x y G Q => ∃ b, InS G x y b ∧ Q (.bl b) G
def oNin : RD2 := fun x y G Q => ∃ b, InS G x y b ∧ Q (.bl (!b)) G
def rInL (K : PySem.W.Frag) (f : Bool → Bool) : R2 := fun x y H Q => ∃ d ds, Dp K H x d ∧ Dp K H y (.list ds) ∧ d.plain = true ∧ PyData.plainAll ds = true ∧ d.depth ≤ 60 ∧ Q (.bl (f (ds.any fun z => PyData.eqv z d))) H
def rInT (K : PySem.W.Frag) (f : Bool → Bool) : R2 := fun x y H Q => ∃ d ds, Dp K H x d ∧ Dp K H y (.tuple ds) ∧ d.plain = true ∧ PyData.plainAll ds = true ∧ d.depth ≤ 60 ∧ Q (.bl (f (ds.any fun z => PyData.eqv z d))) H
def rInK (f : Bool → Bool) : R2 := fun x y H Q => ∃ a o, y = .ref a ∧ DGet H a x o ∧ Q (.bl (f o.isSome)) H
def rInZ (f : Bool → Bool) : R2 := fun x y H Q => ∃ i j, x = .str i ∧ y = .str j ∧ Q (.bl (f (!(Builtin.Str.occurrences j i 0 j.length 1).isEmpty))) H
theorem room_in {u a b : Nat} (h : b ≤ 60) (hu : u + 64 < cLine) : u + 1 + min a b < cLine := by
  have := Nat.min_le_right a b
  omega
theorem op_inL (hu : X.A.units + 64 < cLine) : OpR X (compareOp .In) (rInL X.K id) := by
  intro pins s σ H x y v u Q I rx ry ⟨d, ds, hd, he, p1, p2, dd, q⟩
  obtain ⟨as, r1⟩ := Dp.reads I d x v hd rx
  obtain ⟨bs, r2⟩ := Dp.reads I _ y u he ry
  exact SeqAt.in_list_data r2 r1 p2 p1 (room_in dd hu) ⟨.bl _, H, I, rfl, q⟩
theorem op_inT (hu : X.A.units + 64 < cLine) : OpR X (compareOp .In) (rInT X.K id) := by
  intro pins s σ H x y v u Q I rx ry ⟨d, ds, hd, he, p1, p2, dd, q⟩
  obtain ⟨as, r1⟩ := Dp.reads I d x v hd rx
  obtain ⟨bs, r2⟩ := Dp.reads I _ y u he ry
  exact SeqAt.in_tuple_data r2 r1 p2 p1 (room_in dd hu) ⟨.bl _, H, I, rfl, q⟩
theorem op_ninL (hu : X.A.units + 64 < cLine) : OpR X (compareOp .NotIn) (rInL X.K not) := by
  intro pins s σ H x y v u Q I rx ry ⟨d, ds, hd, he, p1, p2, dd, q⟩
  obtain ⟨as, r1⟩ := Dp.reads I d x v hd rx
  obtain ⟨bs, r2⟩ := Dp.reads I _ y u he ry
  exact SeqAt.notIn_list_data r2 r1 p2 p1 (room_in dd hu) ⟨.bl _, H, I, rfl, q⟩
theorem op_ninT (hu : X.A.units + 64 < cLine) : OpR X (compareOp .NotIn) (rInT X.K not) := by
  intro pins s σ H x y v u Q I rx ry ⟨d, ds, hd, he, p1, p2, dd, q⟩
  obtain ⟨as, r1⟩ := Dp.reads I d x v hd rx
  obtain ⟨bs, r2⟩ := Dp.reads I _ y u he ry
  exact SeqAt.notIn_tuple_data r2 r1 p2 p1 (room_in dd hu) ⟨.bl _, H, I, rfl, q⟩
theorem op_inK (hu : X.A.units + 64 < cLine) : OpR X (compareOp .In) (rInK id) := by
  intro pins s σ H x y v u Q I rx ry ⟨a, o, ey, g, q⟩
  subst ey
  obtain rfl : u = Value.ref a := ry
  exact d_in (by omega) I g rx fun s' I' => ⟨.bl _, H, I', rfl, q⟩
theorem op_ninK (hu : X.A.units + 64 < cLine) : OpR X (compareOp .NotIn) (rInK not) := by
  intro pins s σ H x y v u Q I rx ry ⟨a, o, ey, g, q⟩
  subst ey
  obtain rfl : u = Value.ref a := ry
  exact d_notIn (by omega) I g rx fun s' I' => ⟨.bl _, H, I', rfl, q⟩
theorem in_s (f : Bool → Bool) : OpS X (fun x y G Q => ∃ b, InS G x y b ∧ Q (.bl (f b)) G) (fun x y H Q => rInL X.K f x y H Q ∨ (rInT X.K f x y H Q ∨ (rInK f x y H Q ∨ rInZ f x y H Q))) := fun x y G Q v u H Qv ⟨b, hb, q⟩ rx ry rg k => by
  have fin : Qv (.bl (f b)) H := k _ G _ H q rv_bl rg (Fr.refl _ _)
  cases hb with
  | @tup _ l h hl =>
    obtain ⟨p1, p2⟩ := okd_plain 8 x h
    obtain ⟨q1, q2⟩ := okds_plain hl
    obtain ⟨a, ws, rfl, h1, h2, _⟩ := rv_tup_inv ry
    refine .inr (.inl ⟨x.toP, l.map D.toP, rv_dp 8 x v h rx, .tup h1 (rvs_dp l ws hl h2), p1, q1, by omega, ?_⟩)
    rw [List.any_map]
    exact fin
  | @lst _ a l e h hl =>
    obtain ⟨p1, p2⟩ := okd_plain 8 x h
    obtain ⟨q1, q2⟩ := okds_plain hl
    obtain ⟨ws, h1, h2, _⟩ := rg.lst e
    rw [rv_ref_inv ry]
    refine .inl ⟨x.toP, l.map D.toP, rv_dp 8 x v h rx, .lst h1 (rvs_dp l ws hl h2), p1, q1, by omega, ?_⟩
    rw [List.any_map]
    exact fin
  | @dk _ a kvs kk e h =>
    obtain ⟨ks, h1, h2, _⟩ := rg a _ e
    rw [rv_ref_inv ry]
    refine .inr (.inr (.inl ⟨a, valV ks kk, rfl, by rw [rv_key rx h]; exact DGet.k h1, ?_⟩))
    have g := rk_find kk h2
    cases c : valK kvs kk with
    | none => rw [c] at g fin; rw [g]; exact fin
    | some d =>
      rw [c] at g fin
      obtain ⟨w, e1, _⟩ := g
      rw [e1]
      exact fin
  | @str i z => exact .inr (.inr (.inr ⟨i, z, rv_str_inv rx, rv_str_inv ry, fin⟩))
theorem ops_in (hu : X.A.units + 64 < cLine) : OpR X (compareOp .In) (fun x y H Q => rInL X.K id x y H Q ∨ (rInT X.K id x y H Q ∨ (rInK id x y H Q ∨ rInZ id x y H Q))) := OpR.or (op_inL hu) (OpR.or (op_inT hu) (OpR.or (op_inK hu) op_in_str))
theorem ops_nin (hu : X.A.units + 64 < cLine) : OpR X (compareOp .NotIn) (fun x y H Q => rInL X.K not x y H Q ∨ (rInT X.K not x y H Q ∨ (rInK not x y H Q ∨ rInZ not x y H Q))) := OpR.or (op_ninL hu) (OpR.or (op_ninT hu) (OpR.or (op_ninK hu) op_notin_str))
end
end DL
end
section
set_option Elab.async false
set_option linter.all false
set_option maxRecDepth 100000
set_option maxHeartbeats 4000000
/-! An exception of the program is made: class C(Y), class Y(Exception) with __init__(self, thing): super().__init__(thing); self.thing = thing. -/
namespace DL
open PySem PySem.Spec PyProof.Rows L2

/-- what the written part says of such a class (D: the class with the __init__, fI) -/
structure YInit (P : Program) (K : PySem.W.Frag) (D fI : Addr) : Prop where
  ex : ∃ (oc ccl cl : Value) (od cdd cld : Option Addr) (osl ccs csl : Array (Option Value)) (qual : Str) (params : Arguments) (scope : Scope) (dV kV doc pm ct : Value) (an : Option Addr) (cda cc : Addr) (vs : Array Value) (file : Str) (tf : Tok) (p0 p1 p2 p3 p4 p5 p6 p7 p8 p9 : Pos) (ar : Arg),
    K.lookup fI = some ⟨oc, od, .func (PySem.W.ksFn "__init__" qual params [.Expr (.Call (.Attribute (.Call (.Name "super" p0) [] [] p1) "__init__" p2) [.Name "thing" p3] [] p4) p5, .Assign [.Attribute (.Name "self" p6) "thing" p7] (.Name "thing" p8) p9] scope dV kV doc pm an (.ref cda) ct cc), osl⟩ ∧
    PySem.W.codeIn K (.ref cda) qual = true ∧ K.lookup cda = some ⟨ccl, cdd, .fields vs, ccs⟩ ∧ vs[2]? = some (.str file tf) ∧ ((P.main.file : Str) == file) = true ∧ K.lookup cc = some ⟨cl, cld, .cell (some (.ref D)), csl⟩ ∧
    (∀ us : List Value, us.length = 2 → bindArgs (PySem.W.ksFn "__init__" qual params [.Expr (.Call (.Attribute (.Call (.Name "super" p0) [] [] p1) "__init__" p2) [.Name "thing" p3] [] p4) p5, .Assign [.Attribute (.Name "self" p6) "thing" p7] (.Name "thing" p8) p9] scope dV kV doc pm an (.ref cda) ct cc) ⟨us, []⟩ = pure ((["self", "thing"] : List Str).zip us)) ∧
    (params.posonlyargs ++ params.args).head? = some ar ∧ ar.arg = "self" ∧ scope.names.lookup ("super" : Str) = some .globalImplicit ∧ scope.names.lookup ("__class__" : Str) = some .free ∧ scope.names.lookup ("self" : Str) = some .local ∧ scope.names.lookup ("thing" : Str) = some .local ∧
    scope.kind = .function ∧ (∀ x ∈ scope.names, x.2 ≠ .cell) ∧ scope.isCoroutine = false ∧ scope.isGenerator = false ∧
    (∃ pl : Sem Bool, ∀ L f : Addr, eval (.Call (.Attribute (.Call (.Name "super" p0) [] [] p1) "__init__" p2) [.Name "thing" p3] [] p4) (PySem.W.ksEnv qual scope L f (.ref cda) cc) = (do
      let ov ← attributeBase (.Call (.Name "super" p0) [] [] p1) "__init__" (PySem.W.ksEnv qual scope L f (.ref cda) cc) (eval (.Call (.Name "super" p0) [] [] p1) (PySem.W.ksEnv qual scope L f (.ref cda) cc))
      standAt p2.atName
      let (f1, first) ← holding [ov] (getMethod ov "__init__" pl)
      callWith p4 f1 first (backTo p4 (starEach [.Name "thing" p3] (PySem.W.ksEnv qual scope L f (.ref cda) cc))) [])) ∧
    (∀ L f : Addr, interactive (PySem.W.ksEnv qual scope L f (.ref cda) cc) = false ∧ swapsWith (.Call (.Attribute (.Call (.Name "super" p0) [] [] p1) "__init__" p2) [.Name "thing" p3] [] p4) none p5.line (PySem.W.ksEnv qual scope L f (.ref cda) cc) = pure false ∧
      starEach [.Name "thing" p3] (PySem.W.ksEnv qual scope L f (.ref cda) cc) = [(false, eval (.Name "thing" p3) (PySem.W.ksEnv qual scope L f (.ref cda) cc))] ∧
      swapsWith (.Name "thing" p8) (some (.Attribute (.Name "self" p6) "thing" p7)) p9.line (PySem.W.ksEnv qual scope L f (.ref cda) cc) = pure false)
  clsD : (PySem.W.clsIn K D).isSome = true
  tI : PySem.W.typeIn K (.ref fI) = some (.type "function")
  nosup : (P.main.scope.names.lookup ("super" : Str)).isSome = false
  opq : PySem.W.nsIn K PySem.cStatics "thirdparty.any" = some none
structure YC (K : PySem.W.Frag) (D fI C : Addr) : Prop where
  exi : PySem.W.excInitIn K C ESX.exTail "Exception.__new__" = true
  exo : PySem.W.excOver K C ESX.exTail = true
  ini : PySem.W.findIn K (.ref C) "__init__" = some (some (.ref fI))
  sa : PySem.W.findIn K (.ref C) "__setattr__" = some (some (.builtin "object.__setattr__"))
  tk : PySem.W.takerIn K C "thing" = some none
  hd : PySem.W.hasDictIn K C = true
  exB : PySem.W.subIn K (.ref C) (.type "BaseException") = some true
  exE : PySem.W.subIn K (.ref C) (.type "Exception") = some true
  ty : PySem.W.typeIn K (.ref C) = some (.type "type")
  kC : PySem.W.keepIn K (.ref C) = true
  subD : PySem.W.mroIn K C (.ref D) = some true
  sup : PySem.W.ks_superIn K C D "__init__" = some (some (.builtin "Exception.__init__"))

section
open PySem.W Builtin Builtin.ObjectAttr
variable {prog : Program} {w : World} {A : Around} {E : Value → Shared → Prop} {R : Result → Shared → Prop} {hp : Heap} {g : Array GenState} {d : Drawn} {t : Nat} {os : OsState}
theorem osa_new2 {K : Frag} {name : Str} {tk : Tok} {v : Value} {x C : Addr} {fv : Array Value}
    (X : K.In hp) (hx : hp.get? x = some { cls := .ref C, data := .fields fv }) (hm : excOver K C ESX.exTail = true) (hh : hasDictIn K C = true) (ha : takerIn K C name = some none)
    (hq : ∀ h' tk' dx, (∀ b o, b ≠ x → hp.get? b = some o → h'.get? b = some o) → hp.objs.size ≤ dx → dx ≠ x → h'.get? x = some { cls := .ref C, dict := some dx, data := .fields fv } →
      h'.Ns1 dx (fun y => if y = name then some v else none) → R (.ok (.ret .none)) ⟨h', g, d, tk', os⟩) :
    codeAny (model prog w) A (.call (.builtin "object.__setattr__") ⟨[.ref x, .str name tk, v], []⟩) R ⟨hp, g, d, t, os⟩ := by
  have hxs : x ≠ hp.objs.size := Nat.ne_of_lt (Heap.lt_size hx)
  obtain ⟨cd, hc, hd'⟩ := any_some hh
  have hcls : Looks (model prog w) hp (classData C) cd := looks_clsIn X hc
  refine osa_openX (s := ⟨hp, g, d, t, os⟩) (od := none) F.store_Exception X ⟨hx, rfl, rfl, trivial⟩ hm ha fun b => ?_
  show wpAny _ _ (storeInOwnDict (.ref x) (.ref C) (.str name tk) name v b) _ _ _
  obtain ⟨nm, bs, mro, ns, qn, hd, sn, sb, ab, col, del⟩ := cd
  dsimp only at hd'
  subst hd'
  unfold storeInOwnDict ownDictForStores
  repeat (first | with_reducible refine HandSPX.store_in_new ?_ ?_ | with_reducible refine wpAny_loadPart_at hx ?_ | with_reducible refine hcls.at ?_ | wp_step)
  · exact ⟨_, #[], _, (Heap.get?_update_ne _ _ _ _ hxs.symm).trans (Heap.get?_push_at rfl rfl), rfl, fun e he => absurd he (by simp), fun _ => rfl⟩
  · intro h' tk' hn' hs
    have hx₁ : (hp.push { cls := .type "dict", data := .dict #[] }).get? x = some { cls := .ref C, data := .fields fv } := Heap.get?_push_of_some _ hx
    refine hq h' tk' hp.objs.size (fun b o hb ho => ?_) (Nat.le_refl _) hxs.symm ?_ hn'
    · exact (hs.2 b (Nat.ne_of_lt (Heap.lt_size ho))).trans ((Heap.get?_update_ne _ _ _ _ hb).trans (Heap.get?_push_of_some _ ho))
    · exact (hs.2 x hxs).trans (Heap.get?_update_self _ hx₁ rfl)
end

section
open PySem.W PySem.Calls
variable {prog : Program} {w : World} {A : Around} {E : Value → Shared → Prop} {hp : Heap} {g : Array GenState} {d : Drawn} {t : Nat} {os : OsState} {K : Frag} {D fI C : Addr} {mg mb : Str → Option Value} {u : Value} {Q : Value → Shared → Prop}
theorem yard_call (Y : YInit prog K D fI) (T : YC K D fI C) (X : K.In hp) (lim : hp.NoLimit) (glob : hp.Ns mainGlobals mg) (hmS : mg "super" = none) (blt : hp.Ns builtinsNs mb) (hb : mb "super" = bootBuiltins "super")
    (hroom : (A.under (.builtin "type.__call__" ⟨[.ref C, u], []⟩)).depth < recursionLimit)
    (hq : ∀ h' tk e t1 dx, (∀ b o, hp.get? b = some o → h'.get? b = some o) → hp.objs.size ≤ e → hp.objs.size ≤ dx → dx ≠ e → h'.get? e = some (excObj C t1 (some dx) .none) →
      h'.Ns1 dx (fun y => if y = "thing" then some u else none) → Q (.ref e) ⟨h', g, d, tk, os⟩) : wpAny (model prog w) A (call (.ref C) [u]) Q E ⟨hp, g, d, t, os⟩ := by
  obtain ⟨nm, N', qn, bs, bm, hdct, sn, sub, ab, col, dd, k0, k1, k2, k3, k5, hC, hT⟩ := excInit_of X T.exi
  obtain ⟨oc, ccl, cl, od, cdd, cld, osl, ccs, csl, qual, params, scope, dV, kV, doc, pm, ct, an, cda, cc, vs, file, tf, p0, p1, p2, p3, p4, p5, p6, p7, p8, p9, ar, lk, hcd, lkc, hvs, hfile, lkcc, hbind, hhead, harg, nsup, ncls, nself, nthing, hk, hcell, hco, hgen, ⟨pl, hev⟩, hfl⟩ := Y.ex
  refine wpAny_call (HandSPX.call_own F.excBase_Exception hT hC (looks_findIn X T.ini) (fun self => bind_fn X self Y.tI) (by show 1 ≤ sizeLine; rw [sizeLine_eq]; omega) ?_)
  have kp1 : ∀ b o, hp.get? b = some o → ((hp.push (kdv_tup [u])).push (HandSPX.excO C hp.objs.size)).get? b = some o := fun b o e => Heap.get?_push_of_some _ (Heap.get?_push_of_some _ e)
  have he1 : ((hp.push (kdv_tup [u])).push (HandSPX.excO C hp.objs.size)).get? (hp.objs.size + 1) = some (HandSPX.excO C hp.objs.size) := by heap_get
  generalize hh1 : (hp.push (kdv_tup [u])).push (HandSPX.excO C hp.objs.size) = h1 at kp1 he1 ⊢
  have X1 : K.In h1 := X.keeps kp1
  refine ks_codeAny_call_defAt (s := ⟨h1, g, d, t, os⟩) (binds := [("self", .ref (hp.objs.size + 1)), ("thing", u)]) hroom (X1 _ _ lk) rfl (lim.keeps kp1) (codeRec_of X1 hcd) rfl (.of_eq (hbind [.ref (hp.objs.size + 1), u] rfl)) hcell
    (fun x hx => by
      rcases List.mem_cons.mp hx with rfl | hx
      · exact nself
      · rcases List.mem_cons.mp hx with rfl | hx
        · exact nthing
        · cases hx) (fun h2 hns k2 => ?_) hco hgen hk
  have kp2 : ∀ b o, hp.get? b = some o → h2.get? b = some o := fun b o e => k2 b o (kp1 b o e)
  have he2 := k2 _ _ he1
  have X2 : K.In h2 := X.keeps kp2
  have sz1 : hp.objs.size ≤ h1.objs.size := by
    subst hh1
    simp [Heap.size_push]
    omega
  show _root_.PySem.wpAt _ _ (.func _ (ksEnv qual scope h1.objs.size fI (.ref cda) cc)) (execs _ (ksEnv qual scope h1.objs.size fI (.ref cda) cc)) _ _ _
  obtain ⟨hi1, hi2, hi3, hi4⟩ := hfl h1.objs.size fI
  refine ks_wpAt_execs_cons (ks_wpAt_Expr_any (hi := hi1) (hs := hi2) (ks_wpAt_MethodCall (pl := pl) (he := hev h1.objs.size fI) (ks_wpAt_super_base (env := ksEnv qual scope h1.objs.size fI (.ref cda) cc) nsup ncls (by decide) rfl (X2 _ _ lk) rfl hhead rfl (X2 _ _ lkc) rfl hvs hfile Y.nosup ?_)))
  have boot : mb "super" = some (.type "super") := hb.trans (by with_unfolding_all rfl)
  refine ks_loadName_global hk nsup (loadGlobal_builtin (env := ksEnv qual scope h1.objs.size fI (.ref cda) cc) (glob.keeps kp2) hmS (blt.keeps kp2) boot ⟨rfl, ?_⟩)
  refine wpAny_loadName_free hk ncls rfl ⟨_, X2 _ _ lkcc, rfl⟩ ?_
  rw [harg]
  refine wpAny_loadName_local hk nself hns rfl ?_
  obtain ⟨cdD, hD⟩ := Option.isSome_iff_exists.mp Y.clsD
  obtain ⟨oD, hD1, hD2⟩ : ∃ oD, h2.get? D = some oD ∧ oD.data = .cls cdD := by
    unfold clsIn at hD
    split at hD
    · rename_i c d cd' sl ho
      cases hD
      exact ⟨_, X2 _ _ ho, rfl⟩
    · cases hD
  refine ks_wpAny_isType_cls hD1 hD2 ⟨rfl, ?_⟩
  refine ks_wpAny_call_super hD1 hD2 he2 rfl (fun c e => by cases e) (looks_mroIn X2 T.subD) (fun h3 hso k3 => ?_)
  have kp3 : ∀ b o, hp.get? b = some o → h3.get? b = some o := fun b o e => k3 b o (kp2 b o e)
  have he3 := k3 _ _ he2
  have X3 : K.In h3 := X.keeps kp3
  have I3 : InstAt h3 (hp.objs.size + 1) (HandSPX.excO C hp.objs.size) C none := ⟨he3, rfl, rfl, trivial⟩
  obtain ⟨cdC, hcC⟩ : ∃ cd, clsIn K C = some cd := by
    cases q : clsIn K C with
    | some cd => exact ⟨cd, rfl⟩
    | none =>
      have z := T.sup
      unfold ks_superIn at z
      rw [q] at z
      cases z
  have hsup := T.sup
  unfold ks_superIn at hsup
  rw [hcC] at hsup
  refine ESX.getMethod_super hso (looks_opaque X3 Y.opq) (l₀ := cdC.mro) (fun A Q E s k q => wpAny_bind ((looks_clsIn X3 hcC) A _ E s k (wpAny_pure q))) rfl X3 hsup (ks_ne X3 I3 hcC) (by decide) (I3.type.andThen (looks_subIn X3 T.exE)) ?_
  have kp4 : ∀ b o, h3.get? b = some o → (h3.push (ESX.bw (hp.objs.size + 1))).get? b = some o := fun b o e => Heap.get?_push_of_some _ e
  have hu4 : (h3.push (ESX.bw (hp.objs.size + 1))).get? h3.objs.size = some (ESX.bw (hp.objs.size + 1)) := by heap_get
  generalize hh4 : h3.push (ESX.bw (hp.objs.size + 1)) = h4 at kp4 hu4 ⊢
  have kp04 : ∀ b o, hp.get? b = some o → h4.get? b = some o := fun b o e => kp4 b o (kp3 b o e)
  have hns4 : h4.Ns h1.objs.size (fun x => List.lookup x [(("thing" : Str), u), ("self", .ref (hp.objs.size + 1))]) := hns.keeps fun b o e => kp4 b o (k3 b o e)
  refine ESX.callWith_bound (x := hp.objs.size + 1) ?_ hi3 rfl
  rw [hi3]
  refine Calls.spliced_cons ?_
  refine ESX.ldL hns4 (v := u) rfl ?_ hk nthing
  refine Calls.spliced_nil ⟨hu4, ?_⟩
  show wpAny _ _ (call (.ref h3.objs.size) [u]) _ _ _
  refine ESX.call_bw (kp04 _ _ hC) (kp4 _ _ he3) hu4 (by show 1 ≤ sizeLine; rw [sizeLine_eq]; omega) fun h5 t5 k5 he5 => ?_
  have hge : ∀ {b : Addr} {o : Obj}, hp.get? b = some o → b ≠ hp.objs.size + 1 := fun {b o} e => Nat.ne_of_lt (Nat.lt_of_lt_of_le (Heap.lt_size e) (Nat.le_succ _))
  have kp5 : ∀ b o, hp.get? b = some o → h5.get? b = some o := fun b o e => k5 b o (hge e) (kp04 b o e)
  have X5 : K.In h5 := X.keeps kp5
  have hLe : h1.objs.size ≠ hp.objs.size + 1 := fun e => absurd (Heap.lt_size he1) (by rw [e]; exact Nat.lt_irrefl _)
  have hns5 : h5.Ns h1.objs.size (fun x => List.lookup x [(("thing" : Str), u), ("self", .ref (hp.objs.size + 1))]) := by
    obtain ⟨oL, es, ep, hL, r⟩ := hns4
    exact ⟨oL, es, ep, k5 _ _ hLe hL, r⟩
  refine ks_wpAt_execs_cons (ks_wpAt_Assign_Attr (hs := hi4) (wpAt_of_wpAny (ESX.ldL hns5 (v := u) rfl (ESX.ldL hns5 (v := .ref (hp.objs.size + 1)) rfl ?_ hk nself) hk nthing)))
  refine set_plain (od := none) X5 ⟨he5, rfl, rfl, trivial⟩ T.sa (osa_new2 X5 he5 T.exo T.hd T.tk fun h6 tk6 dx k6 hdx ndx he6 hn6 => ?_)
  refine wpAt_of_wpAny (wpAny_execs_nil ⟨rfl, ?_⟩)
  have kp6 : ∀ b o, hp.get? b = some o → h6.get? b = some o := fun b o e => k6 b o (hge e) (kp5 b o e)
  obtain ⟨oL, _, _, hL, _⟩ := hns5
  exact hq h6 tk6 _ t5 dx kp6 (Nat.le_succ _) (Nat.le_trans sz1 (Nat.le_trans (Nat.le_of_lt (Heap.lt_size hL)) hdx)) ndx he6 hn6
end

/-- C(e) for such a class -/
def tYard (C : Addr) (te : TE) : L2.St → Hp → XK → Prop := fun σ H Q => te σ H fun v H1 => ∀ d, H1 d = none → Q (.ref C) (some d) (upd H1 d (.xd [("thing", v)]))
theorem pmk_yard {X : Cx} {D fI C : Addr} {x : Str} {e : Expr} {te : TE} {p pos : Pos} {k : Nat} (Y : YInit X.prog X.K D fI) (T : YC X.K D fI C) (hmS : X.mg "super" = none) (hr : Room (k + 1) X.A) (hg : Gl X x) (hm : X.mg x = some (.ref C)) (he : PE X e te)
    (hdb : (x == ("__debug__" : Str)) = false := by decide) (hs : starEach [e] X.env = (false, eval e X.env) :: starEach [] X.env := by rfl) : PMk X (.Call (.Name x p) [e] [] pos) (tYard C te) := by
  intro pins s σ H Q I h
  refine wpAny_Call_Name_kw (ld_glob I hg hm ?_ hdb)
  refine PySem.W.callWith_K (h₀ := X.base) I.ok.mod.kin T.kC ?_ hs (by rfl)
  rw [hs]
  show wpAny _ _ (spliced ((false, eval e X.env) :: backTo pos (starEach [] X.env))) _ _ s
  refine Calls.spliced_cons (thn (he.run pins s σ H _ I h) fun u s1 ⟨v, H1, I1, r1, q1⟩ => ?_)
  refine Calls.spliced_nil ⟨I1.kIn, ?_⟩
  show wpAny _ _ (call (.ref C) [u]) _ _ _
  obtain ⟨hp, g, d, t, os⟩ := s1
  obtain ⟨mb, hb1, hb2⟩ := I1.mod.blt
  refine yard_call Y T I1.kIn (I1.mod.nolimit.keeps I1.bk) (I1.mod.glob.keeps I1.bk) hmS (hb1.keeps I1.bk) (hb2 "super" (by decide)) (hr.make C [u] []).depth fun h' tk e0 t1 dx kp he0 hdx ndx he' hn' => ?_
  obtain ⟨G, g1, g2⟩ := restrict h' fun b => decide (b ≠ e0)
  have gk : ∀ b, b ≠ e0 → G.get? b = h'.get? b := fun b hb => g1 b (decide_eq_true hb)
  have ge : G.get? e0 = none := g2 e0 (by simp)
  have nde : H1 dx = none := I1.hok.fresh hdx
  have ne0 : H1 e0 = none := I1.hok.fresh he0
  have kG : ∀ b o, hp.get? b = some o → G.get? b = some o := fun b o z => by
    rw [gk b (Nat.ne_of_lt (Nat.lt_of_lt_of_le (Heap.lt_size z) he0))]
    exact kp b o z
  have rel : ∀ f, RelO (([("thing", v)] : List (Str × V)).lookup f) (if f = "thing" then some u else none) := fun f => relO_put (fs := []) (mA := fun _ => none) r1 (fun _ => True.intro) f
  have J : Inv X pins σ (upd H1 dx (.xd [("thing", v)])) ⟨G, g, d, tk, os⟩ := I1.laid (t' := tk) (a := dx) (o := .xd [("thing", v)]) kG hdx ⟨_, hn'.at fun o y => (gk dx ndx).trans y, rel⟩
  refine ⟨e0, _, _, ⟨G, g, d, tk, os⟩, _, .ref C, some dx, rfl, J, fun b o z => ?_, ge, he', ⟨rfl, rfl⟩, rfl, rfl, ?_, rfl, I1.bare, raises_own T.exB T.ty, q1 dx nde⟩
  · by_cases hba : b = e0
    · rw [hba, ge] at z
      cases z
    · exact (gk b hba).symm.trans z
  · rw [upd_ne (Ne.symm ndx), ne0]
end DL
end
section
set_option Elab.async false
set_option linter.all false
set_option maxRecDepth 100000
set_option maxHeartbeats 4000000
/-! try .. except X as n .. except Y as m ..; the fields of what is caught. -/
namespace DL
open PySem PySem.Spec PyProof.Rows L2
abbrev Cl := Value × Nat × (Addr → Value → Option Addr → TS)
/-- a suite's ends: the clause's name goes -/
abbrev offE (i : Nat) (D : Ends) : Ends := { nx := fun σ' H' => D.nx (σ'.set i none) H', rt := D.rt, bk := fun σ' H' => D.bk (σ'.set i none) H', ct := fun σ' H' => D.ct (σ'.set i none) H' }
/-- what the clauses wish, one after the other -/
def wAsM (K : PySem.W.Frag) (Wout : WX) (D : Ends) : List Cl → WX
  | [] => Wout
  | (c, i, ts) :: r => fun cls d σ H => ∃ b, PySem.W.exmOne K cls c = some b ∧ (b = true → ∀ a, H a = none → ts a cls d (offE i D) (σ.set i (some (.ref a))) H) ∧ (b = false → wAsM K Wout D r cls d σ H)
inductive HdsAs (X : Cx) : List ExceptHandler → List Cl → Prop
  | nil : HdsAs X [] []
  | cons {x n : Str} {c : Value} {i : Nat} {ts : Addr → Value → Option Addr → TS} {b₀ : Stmt} {suite : List Stmt} {np pos' : Pos} {hds : List ExceptHandler} {l : List Cl} (hc : Names X x c) (hi : X.N[i]? = some n) (hln : X.env.kindOf n = some .local)
      (hsu : ∀ (a : Addr) (oe : Obj) (cls : Value) (d : Option Addr) (pn : List (Addr × Obj)), Zc cls d oe → (∃ vs, oe.data = .fields vs) → PSs (X.suite a ((a, oe) :: pn)) (b₀ :: suite) (ts a cls d)) (r : HdsAs X hds l) :
      HdsAs X (.ExceptHandler (some (.Name x np)) (some n) (b₀ :: suite) pos' :: hds) ((c, i, ts) :: l)
section
variable {X : Cx} {body : List Stmt} {h₀ : ExceptHandler} {hds : List ExceptHandler} {l : List Cl} {pos : Pos} {tb : WX → TS} {Wout : WX}
theorem ps_try_asM (hs : X.stack = X.env :: X.outer) (hf : X.env.frame = some X.env.locals) (hN : X.N.Nodup) (tk : Takes X Wout)
    (hb : ∀ (W : WX) (pn : List (Addr × Obj)) (xe : Value → Shared → Prop), Takes (X.tr pn xe) W → PassesOwn (model X.prog X.w) X.A X.env xe → PSs (X.tr pn xe) body (tb W))
    (hh : HdsAs X (h₀ :: hds) l) : PS X (.Try body (h₀ :: hds) [] [] pos) (fun D σ H => tb (wAsM X.K Wout D l) D σ H) := by
  refine ⟨fun pins s σ H D I h => ?_⟩
  have ok := I.ok
  have hfr : X.A.frames = some (X.env :: X.outer) := by rw [ok.frames, hs]
  refine wpAny_Try_except ?_
  refine wpAny_mono ((hb (wAsM X.K Wout D l) (X.pn ++ pins) (fun e s₁ => wpAny (model X.prog X.w) X.A (noteFrame e X.env) (fun _ s₂ => wpAny (model X.prog X.w) X.A (setFlight e none) (fun _ s₃ =>
    wpAny (model X.prog X.w) X.A (handleBy e X.env (h₀ :: hds)) (SP X pins D) X.xe s₃) X.xe s₂) X.xe s₁) (fun u s' xx => ?_) PassesOwn.looking).run [] s σ H D (I.toTry _) h) (fun f s1 hsp => ?_) (fun e s1 he => he)
  · obtain ⟨a, B, sI, pins', σ', H', cls, d, rfl, J', nb, up, sky, na, os, ag, w⟩ := xx
    have J : Inv X pins σ' H' sI := J'.ofTry ok
    have sky' : Sky B (X.env :: X.outer) a (Zc cls d) X.env.locals s'.heap := by rw [← hs]; exact sky
    show wpAny (model X.prog X.w) X.A (noteFrame (.ref a) X.env) _ _ _
    refine Sky.land Zc.steady hfr hf sky' fun h3 fl3 up3 => ?_
    have J3 : Inv X pins σ' H' { s' with heap := h3 } := J.landed nb fl3.1 (up.trans up3) os ag
    obtain ⟨oe3, vs3, he3, hz3, hd3⟩ := fl3.there
    have notFr : ∀ {h : Heap} {o : Obj} {vs : Array Value}, h.FunFrames B (X.env :: X.outer) → h.get? a = some o → o.data = .fields vs → a ∉ frs (X.env :: X.outer) := fun {h o vs} ff e dd hm => by
      obtain ⟨_, o', e', hnf⟩ := ff.mem hm
      rw [e] at e'; cases e'
      exact hnf _ dd
    have nfr := notFr fl3.2.2.1 he3 hd3
    have nL : a ≠ X.env.locals := fun z => nfr (List.mem_filterMap.mpr ⟨X.env, List.mem_cons_self, by rw [hf, z]⟩)
    have nF : a ∉ X.fs := fun hm => by
      obtain ⟨e, he, q⟩ := List.mem_filterMap.mp hm
      exact nfr (List.mem_filterMap.mpr ⟨e, List.mem_cons_of_mem _ he, q⟩)
    have S3 := J3.suite he3 hd3 na nL nF
    have go : ∀ {hds' : List ExceptHandler} {l' : List Cl}, HdsAs X hds' l' → wAsM X.K Wout D l' cls d σ' H' →
        wpAny (model X.prog X.w) X.A (handleBy (.ref a) X.env hds') (SP X pins D) X.xe { s' with heap := h3 } := by
      intro hds' l' hk
      induction hk with
      | nil =>
        intro w
        refine wpAny_handleBy_nil ?_
        obtain ⟨k1, k2, k3, oe, vs, T, oT, ts', he, hz, hd, h1, hr⟩ := id fl3
        unfold PySem.passOn
        refine wpAny_bind (wpAny_field he hd h1 ?_)
        rw [if_neg (show ¬ ((Value.ref T == Value.none) = true) from by simp)]
        have fin : wpAny (model X.prog X.w) X.A (setFlight (.ref a) X.env.frame) (fun _ s4 => wpAny (model X.prog X.w) X.A (throw (.ref a) : Sem Flow) (SP X pins D) X.xe s4) X.xe { s' with heap := h3 } := by
          rw [hf]
          refine HandSPX.setFlight_upZ fl3 fun h4 hh4 up4 => wpAny_throw (tk _ _ ?_)
          exact ⟨a, B, sI, pins, σ', H', cls, d, rfl, J, nb, (up.trans up3).trans up4, .inr (.inr (by rw [hs]; exact hh4)), na, os, ag, w⟩
        first
          | exact wpAny_bind (wpAny_pure (wpAny_bind fin))
          | exact wpAny_bind fin
      | @cons x n c i ts b₀ suite np pos' hds2 l2 hc hi hln hsu r ih =>
        intro w
        have hloc : Loc X.env.scope n := .inl hln
        obtain ⟨b, hb1, hyes, hno⟩ := w
        refine wpAny_handleBy_cons (codeAny_handlers_test ?_) (by intro q; cases q)
        have LT : PySem.W.Looks (model X.prog X.w) h3 (typeOf (.ref a)) cls := fun A Q E s k q => wpAny_typeOf_ref (k _ _ he3) (by rw [hz3.1]; exact q)
        have LM := PySem.W.exm_one (M := model X.prog X.w) (J3.kIn) LT hb1
        have test : ∀ {Q : Value → Shared → Prop} {E : Value → Shared → Prop}, Q c { s' with heap := h3 } → wpAny (model X.prog X.w) (X.A.mark (some (.ref a))) (eval (.Name x np) X.env) Q E { s' with heap := h3 } := fun {Q E} q => by
          obtain ⟨hg, hdbg, hm | ⟨hm, hv, hnn⟩⟩ := hc
          · exact ld_glob (X := X.suite a ((a, oe3) :: (X.pn ++ pins))) S3 hg hm q hdbg
          · exact ld_blt (X := X.suite a ((a, oe3) :: (X.pn ++ pins))) S3 hg hm hv q hnn hdbg
        refine test (LM.here ?_)
        cases b with
        | true =>
          refine codeAny_handlers_suite_as ?_
          refine HandSPX.lands_againZ fl3 fun h4 fl4 up4 => ?_
          have J4 : Inv X pins σ' H' { s' with heap := h4 } := J.landed nb fl4.1 ((up.trans up3).trans up4) os ag
          obtain ⟨oe4, vs4, he4, hz4, hd4⟩ := fl4.there
          have S4 := J4.suite he4 hd4 na nL nF
          refine store_ok (X := X.suite a ((a, oe4) :: (X.pn ++ pins))) (v := .ref a) S4 hN hi hloc rfl (fun s5 S5 => ?_) (.inr hln)
          refine wpAny_mono ((hsu a oe4 cls d (X.pn ++ pins) hz4 ⟨_, hd4⟩).run [] s5 _ H' _ S5 (hyes rfl a na)) (fun f s6 hsp => ?_) (fun _ _ z => False.elim z)
          have end_ : ∀ {σ6 : L2.St} {H6 : Hp} {Q : Shared → Prop}, Inv (X.suite a ((a, oe4) :: (X.pn ++ pins))) [] σ6 H6 s6 → (∀ s7, Inv X pins (σ6.set i none) H6 s7 → Q s7) →
              wpAny (model X.prog X.w) X.A (do bindName X.env n .none; unbindBehindTheSuite X.env n pos') (fun _ s7 => Q s7) X.xe s6 := fun {σ6 H6 Q} S6 hq => gone_ok (S6.unsuite ok) hN hi hln hq
          cases f with
          | next =>
            obtain ⟨σ6, H6, S6, q6⟩ := hsp
            exact end_ S6 fun s7 J7 => ⟨_, _, J7, q6⟩
          | brk =>
            obtain ⟨σ6, H6, S6, q6⟩ := hsp
            exact end_ S6 fun s7 J7 => ⟨_, _, J7, q6⟩
          | cont =>
            obtain ⟨σ6, H6, S6, q6⟩ := hsp
            exact end_ S6 fun s7 J7 => ⟨_, _, J7, q6⟩
          | ret u =>
            obtain ⟨v6, σ6, H6, S6, r6, q6⟩ := hsp
            exact end_ S6 fun s7 J7 => ⟨_, _, _, J7, r6, q6⟩
        | false =>
          show wpAny _ X.A (handleBy (.ref a) X.env hds2) _ _ _
          exact ih (hno rfl)
    exact go hh w
  · cases f with
    | next =>
      obtain ⟨σ', H', J', q⟩ := hsp
      exact wpAny_execs_nil ⟨σ', H', J'.ofTry ok, q⟩
    | brk =>
      obtain ⟨σ', H', J', q⟩ := hsp
      exact ⟨σ', H', J'.ofTry ok, q⟩
    | cont =>
      obtain ⟨σ', H', J', q⟩ := hsp
      exact ⟨σ', H', J'.ofTry ok, q⟩
    | ret u =>
      obtain ⟨v, σ', H', J', r, q⟩ := hsp
      exact ⟨v, σ', H', J'.ofTry ok, r, q⟩
end
end DL
end
section
set_option Elab.async false
set_option linter.all false
set_option maxRecDepth 100000
set_option maxHeartbeats 4000000
/-! isinstance(e, C) of a caught exception with fields. -/
namespace PySem.W
open PySem PySem.Spec PySem.Calls PyProof.Rows
section
variable {prog : Program} {w : World} {A : Around} {E : Value → Shared → Prop} {s : Shared} {K : Frag} {x D : Addr} {ox : Obj} {od : Option Obj}
theorem findObj_dataY {C : Addr} {name : Str} {a g : Value} (hc : (clsIn K C).isSome = true) (ha : findIn K (.ref C) name = some (some a)) (hg : specialIn K a "__get__" = some (some g)) (ht : takesIn K a = some true) : findObj K C od name = some (.bind g a) := by
  obtain ⟨cd, hc⟩ := Option.isSome_iff_exists.mp hc
  unfold findObj
  rw [hc, Option.bind_some, ha, Option.bind_some]
  simp [hg, ht]
theorem kin_classY {Q : Option Value → Shared → Prop} (hga : findIn K (.ref D) "__getattribute__" = some (some (.builtin "BaseException.__getattribute__"))) (hgt : findIn K (.ref D) "__getattr__" = some none) (hsub : subIn K (.ref D) (.type "BaseException") = some true)
    (hdct : hasDictIn K D = true) (ha : findIn K (.ref D) "__class__" = some (some (.builtin "object.__class__")))
    (hn : specialIn K (.builtin "object.__class__") "__get__" = some (some (.builtin "getset_descriptor.__get__"))) (htk : takesIn K (.builtin "object.__class__") = some true) (hm : mroIn K D (.type "object") = some true)
    (X : K.In s.heap) (I : InstAt s.heap x ox D od) (h : Q (some (.ref D)) { s with toks := s.toks + 1 }) : wpAny (model prog w) A (getAttr? (.ref x) "__class__") Q E s := by
  have hf : findObj K D od "__class__" = some (.bind (.builtin "getset_descriptor.__get__") (.builtin "object.__class__")) := findObj_dataY (by obtain ⟨cd, hc, _⟩ := any_some hdct; rw [hc]; rfl) ha hn htk
  obtain ⟨hp, g, d, t, os⟩ := s
  have L0 := I.type (M := model prog w)
  have L1 := looks_findIn (M := model prog w) X hga
  have L2 := looks_findIn (M := model prog w) X hgt
  have L3 := looks_find (M := model prog w) X I hf
  have sub : Looks (model prog w) hp (isInstance (.ref x) (.type "BaseException")) true := L0.andThen (looks_subIn X hsub)
  have hx0 : (false && onTheHeap (Value.builtin "BaseException.__getattribute__")) = false := rfl
  have hx2 : (Value.builtin "BaseException.__getattribute__" == Value.builtin "object.__getattribute__") = false := by decide +kernel
  have hx1 : (onTheHeap (Value.ref D) && Value.builtin "BaseException.__getattribute__" == Value.builtin "object.__getattribute__") = false := by rw [hx2]; rfl
  unfold getAttr? getAttrBy? getAttrBy
  refine wpAny_bind (wpAny_mkText (wpAny_bind (wpAny_attempt (wpAny_holding (wpAny_bind (L0.at (wpAny_bind (L1.at ?_))))))))
  show wpAny _ _ (if (onTheHeap (Value.ref D) && Value.builtin "BaseException.__getattribute__" == Value.builtin "object.__getattribute__") = true then _ else _) _ _ _
  rw [hx1, if_neg Bool.false_ne_true]
  unfold getAttrByItsOwn hookBefore
  refine wpAny_bind ?_
  rw [if_pos (show onTheHeap (Value.ref D) = true from rfl)]
  refine L2.at ?_
  refine wpAny_bind (wpAny_attempt (wpAny_holding ?_))
  unfold callGetattribute
  rw [hx0, if_neg Bool.false_ne_true]
  unfold boundAndCalled
  rw [PySem.F.excAttr_ValueError.ga.bind (.ref x)]
  refine wpAny_bind (wpAny_pure ?_)
  show wpAny _ _ (call (.builtin "BaseException.__getattribute__") [.ref x, .str "__class__" t]) _ _ _
  refine wpAny_call (codeAny_call_builtin PySem.F.excAttr_ValueError.ga.plain PySem.F.entry_bexc_ga ?_)
  refine @check_slot (model prog w) _ _ ⟨hp, g, d, t + 1, os⟩ "BaseException.__getattribute__" "BaseException" "__getattribute__" (.ref x) [.str "__class__" t] [] _ (by decide +kernel) (by decide +kernel) sub (PySem.F.args_bexc_ga (.ref x) (.str "__class__" t)) ?_
  unfold Builtin.«object.__getattribute__»
  refine wpAny_bind (wpAny_of_eq (a := ((Value.ref x : Value), [Value.str "__class__" t])) (by first | rfl | (simp only [slotArgs]; rfl)) ?_)
  refine wpAny_bind (wpAny_pure (wpAny_bind (L0.at (wpAny_bind (L3.at ?_)))))
  show wpAny _ _ (holding [Value.builtin "object.__class__"] (call (.builtin "getset_descriptor.__get__") [.builtin "object.__class__", .ref x, .ref D]) >>= ret) _ _ _
  refine wpAny_bind (wpAny_holding (wpAny_call (class_get (s := ⟨hp, g, d, t + 1, os⟩) (ox := ox) (od := od) X I hm ?_)))
  refine wpAny_pure ?_
  show wpAny _ _ (handedOut (.ref D)) _ _ _
  rw [handedOut_of (v := .ref D) rfl]
  first
    | exact wpAny_pure (wpAny_pure h)
    | exact wpAny_pure h
    | exact wpAny_pure (wpAny_bind (wpAny_pure (wpAny_pure h)))
theorem kitx_excY (hga : findIn K (.ref D) "__getattribute__" = some (some (.builtin "BaseException.__getattribute__"))) (hgt : findIn K (.ref D) "__getattr__" = some none) (hsub : subIn K (.ref D) (.type "BaseException") = some true) (hdct : hasDictIn K D = true) (ha : findIn K (.ref D) "__class__" = some (some (.builtin "object.__class__")))
    (hn : specialIn K (.builtin "object.__class__") "__get__" = some (some (.builtin "getset_descriptor.__get__"))) (htk : takesIn K (.builtin "object.__class__") = some true) (hm : mroIn K D (.type "object") = some true) :
    KitX K (.ref x) (.ref D) (fun h => InstAt h x ox D od) where
  ty := fun _ _ _ I => I.type
  it := fun _ _ X _ => by
    obtain ⟨cdD, hcD, _⟩ := any_some hdct
    unfold clsIn at hcD
    split at hcD
    · rename_i c' d' cd' sl' ho
      intro A' Q' E' s' k q
      unfold isType loadHead
      exact wpAny_bind (wpAny_loadPart (k _ _ (X _ _ ho)) (wpAny_pure q))
    · cases hcD
  ne := fun h tp dd its n sl X htp => by
    obtain ⟨cdD, hcD, _⟩ := any_some hdct
    refine Bool.eq_false_iff.mpr fun q => ?_
    have e : D = tp := Value.ref.inj (beq_iff_eq.mp q)
    subst e
    unfold clsIn at hcD
    split at hcD
    · rename_i c' d' cd' sl' ho
      have z := (X _ _ ho).symm.trans htp
      cases z
    · cases hcD
  ca := fun X I k => kin_classY hga hgt hsub hdct ha hn htk hm X I k
end
end PySem.W
namespace DL
open PySem PySem.Spec PyProof.Rows L2
/-- isinstance(e, c), e the exception that the suite holds -/
def rIsY (K : PySem.W.Frag) (a : Addr) (cls : Value) (d : Option Addr) : List V → Hp → VK → Prop := fun xs H Q => ∃ (D dd : Addr) (fs : List (Str × V)) (c : V) (cv : Value) (b : Bool), cls = .ref D ∧ d = some dd ∧ H dd = some (.xd fs) ∧ ExcC K D ∧ xs = [.ref a, c] ∧ (∀ u, RelV c u → u = cv) ∧ PySem.W.kitOne K (.ref D) cv = some b ∧ Q (.bl b) H
theorem call_isY {X : Cx} {a : Addr} {cls : Value} {d : Option Addr} {oe : Obj} {pn : List (Addr × Obj)} (hz : Zc cls d oe) (hf : ∃ vs, oe.data = .fields vs) : CallR (X.suite a ((a, oe) :: pn)) (.builtin "isinstance") (rIsY X.K a cls d) := by
  intro pins s σ H xs us Q I r h
  obtain ⟨D, dd, fs, c, cv, b, rfl, rfl, hdd, C, rfl, hcv, e, q⟩ := h
  cases r with
  | cons rx rr =>
    cases rr with
    | cons rt rr =>
      cases rr
      cases rx
      have ec := hcv _ rt
      subst ec
      obtain ⟨hget, _⟩ := I.pin (a, oe) (List.mem_append.mpr (.inl List.mem_cons_self))
      obtain ⟨vs, hv⟩ := hf
      have hx : ObjOk X.prog X.w H s.heap dd (.xd fs) := I.hok dd _ hdd
      obtain ⟨mA, hns, hr⟩ := hx
      obtain ⟨od, ho, hl⟩ := lookIn_ns hns
      have J : PySem.W.InstAt s.heap a oe D (some od) := ⟨hget, hz.1, by unfold PySem.W.notCls; rw [hv] <;> rfl, by rw [hz.2]; exact ho⟩
      exact PySem.W.kia_one (PySem.W.kitx_excY C.hg C.hk C.hs C.hd C.ha C.hn C.ht C.hm) I.kIn J e (fun z => nomatch z) fun tk => ⟨.bl b, H, I.kept (t' := tk) fun _ _ z => z, rfl, q⟩
end DL
end
section
set_option Elab.async false
set_option linter.all false
set_option maxRecDepth 100000
set_option maxHeartbeats 4000000
/-! Data: raise, calls that may raise, defs that may raise. -/
namespace DL
open PySem PySem.Spec PyProof.Rows L2
abbrev XQ := Addr → D → Gp → Prop
abbrev TDX := Ev → Gp → DK → XQ → Prop
abbrev SpX := List D → Gp → DK → XQ → Prop
section
variable (X : Cx)
/-- an expression that may raise -/
def lfX (t : TDX) : TE := fun σ H Qv => ∃ env G Q QX, RSt X.K X.m H env σ ∧ RG X.K X.m H G ∧ t env G Q QX ∧ Ko X G H Q Qv ∧ KoX X G H QX fun C d H' => wpX X (.ref C) (some d) σ H'
abbrev DEX (e : Expr) (t : TDX) : Prop := PE X e (lfX X t)
end
/-- a def's promise over data, exceptions too -/
def lfPX (K : PySem.W.Frag) (m : Mg) (sp : SpX) : Sp := fun vs H Qv E => ∃ ds G Q QX, Rvs K m H ds vs ∧ RG K m H G ∧ sp ds G Q QX ∧ (∀ d G' v H', Q d G' → Rv K m H' d v → RG K m H' G' → Fr G G' H H' → Qv v H') ∧
  ∀ C x G' v d H', QX C x G' → Rv K m H' x v → RG K m H' G' → Fr G G' H H' → H' d = some (.xd [("thing", v)]) → G' d = none → E (.ref C) (some d) H'
structure CalX (P : Program) (w : World) (K : PySem.W.Frag) (mg : Str → Option Value) (base : Heap) (k : Nat) (x : Str) (sp : SpX) : Prop where
  ex : ∃ (f : Addr) (fd : FuncData) (ps : List Str), FnOk P w K mg base (L2.CX P w) k f fd ps (lfPX K ⟨mg, P, w⟩ sp) ∧ mg x = some (.ref f) ∧ PySem.W.keepIn K (.ref f) = true ∧ Binds K fd ps []
theorem CalX.mono {P : Program} {w : World} {K : PySem.W.Frag} {mg : Str → Option Value} {base : Heap} {j k : Nat} {x : Str} {sp : SpX} (C : CalX P w K mg base j x sp) (h : j ≤ k) : CalX P w K mg base k x sp := by
  obtain ⟨f, fd, ps, F, a, b, c⟩ := C.ex
  exact ⟨f, fd, ps, F.mono h, a, b, c⟩
theorem CalX.imp {P : Program} {w : World} {K : PySem.W.Frag} {mg : Str → Option Value} {base : Heap} {k : Nat} {x : Str} {sp sp' : SpX} (C : CalX P w K mg base k x sp) (h : ∀ ds G Q QX, sp' ds G Q QX → sp ds G Q QX) : CalX P w K mg base k x sp' := by
  obtain ⟨f, fd, ps, F, a, b, c⟩ := C.ex
  exact ⟨f, fd, ps, F.imp fun vs H Q E ⟨ds, G, Q1, QX, h1, h2, h3, h4⟩ => ⟨ds, G, Q1, QX, h1, h2, h _ _ _ _ h3, h4⟩, a, b, c⟩
section
variable {X : Cx} {k : Nat} {x : Str} {sp : SpX} {p pos pos' : Pos} {e : Expr} {es : List Expr} {kws : List Keyword} {t u : TDA} {te : TD} {tx : TDX}
/-! ### raise -/
def dRaise (C : Addr) (te : TD) : TDS := fun DD env G => te env G fun v G1 => DD.ex C v G1
theorem ds_raise {D0 fI C : Addr} (hc : X.calm = true) (Y : YInit X.prog X.K D0 fI) (T : YC X.K D0 fI C) (hmS : X.mg "super" = none) (hr : Room (k + 1) X.A) (hg : Gl X x) (hm : X.mg x = some (.ref C)) (he : DE X e te)
    (hdb : (x == ("__debug__" : Str)) = false := by decide) (hs : starEach [e] X.env = (false, eval e X.env) :: starEach [] X.env := by rfl) : DS X (.Raise (some (.Call (.Name x p) [e] [] pos')) none pos) (dRaise C te) :=
  ds_of (ps_raise hc (takes_wpX X) (pmk_yard Y T hmS hr hg hm he hdb hs)) fun D σ H env G DD rs rg h k => ⟨env, G, _, rs, rg, h, fun x G1 v H1 q r rg1 f d nd =>
    k.ex C x G1 v d _ q (r.mono (keep_new nd)) (rg1.new nd) (f.trans (Fr.new nd)) upd_same (rg1.fresh nd) σ⟩
/-! ### calls that may raise -/
def dCallX (sp : SpX) (t : TDA) : TDX := fun env G Q QX => t env G fun ds G1 => sp ds G1 Q QX
theorem de_callX (C : CalX X.prog X.w X.K X.mg X.base k x sp) (hr : Room k X.A) (hg : Gl X x) (ha : DA X (e :: es) t)
    (hdb : (x == ("__debug__" : Str)) = false := by decide) (he : starEach (e :: es) X.env = (false, eval e X.env) :: starEach es X.env := by rfl) (hpl : (backTo pos (starEach es X.env)).any (·.1) = false := by rfl) :
    DEX X (.Call (.Name x p) (e :: es) [] pos) (dCallX sp t) := by
  obtain ⟨f, fd, ps, F, hm, hk, hb⟩ := C.ex
  exact PE.mono (pe_callS F hr hg hm hk hb (fun σ => passAt (takes_wpX X) σ) ha hdb he hpl) fun σ H Qv ⟨env, G, Q, QX, rs, rg, h, k, kx⟩ => ⟨env, G, _, rs, rg, h, fun ds G1 vs H1 q r rg1 f1 =>
    ⟨ds, G1, Q, QX, r, rg1, q, k.mono f1, kx.mono f1⟩⟩
/-- what raises nothing -/
theorem dex_of (h : DE X e te) : DEX X e (fun env G Q _ => te env G Q) := PE.mono h fun σ H Qv ⟨env, G, Q, QX, rs, rg, h, k, kx⟩ => ⟨env, G, Q, rs, rg, h, k⟩
/-! ### statements of these -/
def dDropX (tx : TDX) : TDS := fun DD env G => tx env G (fun _ G1 => DD.nx env G1) DD.ex
def dRetX (tx : TDX) : TDS := fun DD env G => tx env G DD.rt DD.ex
def dAsgX (tx : TDX) (g : TDG) : TDS := fun DD env G => tx env G (fun d G1 => g d env G1 DD.nx) DD.ex
theorem ds_exprX (ha : DEX X e tx) (hs : swapsWith e none pos.line X.env = pure false := by rfl) : DS X (.Expr e pos) (dDropX tx) :=
  ds_of (ps_expr ha hs) fun D σ H env G DD rs rg h k => ⟨env, G, _, _, rs, rg, h, fun d G1 v H1 q r rg1 f => k.nx env G1 σ H1 q (rs.mono (f.keep rg)) rg1 f, fun C x G1 v d H1 q r rg1 f e1 e2 => k.ex C x G1 v d H1 q r rg1 f e1 e2 σ⟩
theorem ds_retX (ha : DEX X e tx) : DS X (.Return (some e) pos) (dRetX tx) :=
  ds_of (ps_ret ha) fun D σ H env G DD rs rg h k => ⟨env, G, _, _, rs, rg, h, k.rt, fun C x G1 v d H1 q r rg1 f e1 e2 => k.ex C x G1 v d H1 q r rg1 f e1 e2 σ⟩
theorem ds_asgX {tg : Expr} {g : TDG} (ha : DEX X e tx) (hg : DG X tg g) (hs : swapsWithSole [tg] e pos.line X.env = pure false := by rfl) (hw : swappedStores [tg] e X.env = pure none := by rfl)
    (h1 : (assignEach [tg] X.env).map (·.2) = [assign tg X.env] := by rfl) : DS X (.Assign [tg] e pos) (dAsgX tx g) :=
  ds_of (ps_asg ha hg hs hw h1) fun D σ H env G DD rs rg h k => ⟨env, G, _, _, rs, rg, h, fun d G1 v H1 q r rg1 f => ⟨d, env, G1, _, r, rs.mono (f.keep rg), rg1, q, fun env' G' σ' H' q' rs' rg' f' => k.nx env' G' σ' H' q' rs' rg' (f.trans f')⟩,
    fun C x G1 v d H1 q r rg1 f e1 e2 => k.ex C x G1 v d H1 q r rg1 f e1 e2 σ⟩
end
/-! ### a def by its body, that may raise -/
abbrev XG (P : Program) (w : World) (K : PySem.W.Frag) (mg : Str → Option Value) (base : Heap) (N : List Str) (qual : Str) (sc : Scope) (f : Addr) (cdv : Value) (A : Around) (outer : List Env) (s : Shared) (H : Hp) (E : XK) : Cx := cxOf (L2.CX P w) P w K mg base N qual sc f cdv A outer s H E
theorem fn_DX {P : Program} {w : World} {K : PySem.W.Frag} {mg : Str → Option Value} {base : Heap} {x qual : Str} {params : Arguments} {body : List Stmt} {scope : Scope} {f : Addr} {fd : FuncData} {N ps : List Str} {k : Nat} {sp : SpX} {t : TDS}
    (F : FunD K x qual params body scope [] [] f fd) (S : FnScope N ps scope) (hg : mg x = some (.ref f))
    (hbind : ∀ (kV doc pm : Value) (an : Option Addr) (cdv ct : Value) (us : List Value), us.length = ps.length → bindArgs (PySem.W.fnOf x qual params body scope .none kV doc pm an cdv ct) ⟨us, []⟩ = pure (ps.zip us))
    (len : ∀ ds G Q QX, sp ds G Q QX → ds.length = ps.length)
    (hb : ∀ (cdv : Value) (A : Around) (outer : List Env) (s : Shared) (H : Hp) (E : XK), Room k (A.deeper (envOfC qual scope s.heap.objs.size f cdv)) → DSs (XG P w K mg base N qual scope f cdv A outer s H E) body t)
    (hr : ∀ ds G Q QX, sp ds G Q QX → t { nx := fun _ G' => Q .non G', rt := Q, ex := QX } (startD N ds) G) : CalX P w K mg base (k + 1) x sp := by
  refine ⟨f, fd, ps, F.ok S (fun vs H Q E ⟨ds, G, Q1, QX, h1, h2, h3, h4⟩ => h1.length ▸ len _ _ _ _ h3) (fun cdv A outer s H vs Q E hr' ⟨ds, G, Q1, QX, h1, h2, h3, h4, h5⟩ => ⟨_, hb cdv A outer s H E hr', startD N ds, G, _, rst_start h1, h2, hr _ _ _ _ h3, ?_⟩), hg, F.kp, F.bindsN hbind⟩
  refine ⟨fun env G' σ' H' q rs rg fr => h4 .non G' _ H' q rv_non rg fr, h4, fun _ _ _ _ z => z.elim, fun _ _ _ _ z => z.elim, fun C y G' v d H' q r rg fr e1 e2 σ => ?_⟩
  exact wpX_of (W := fun cls d _ H => E cls d H) (takes_of (E := E) rfl rfl rfl rfl) (h5 C y G' v d H' q r rg fr e1 e2)
theorem passes_G {P : Program} {w : World} {K : PySem.W.Frag} {mg : Str → Option Value} {base : Heap} {N : List Str} {qual : Str} {sc : Scope} {f : Addr} {cdv : Value} {A : Around} {outer : List Env} {s : Shared} {H : Hp} {E : XK} :
    PassesOwn (model P w) (XG P w K mg base N qual sc f cdv A outer s H E).A (XG P w K mg base N qual sc f cdv A outer s H E).env (XG P w K mg base N qual sc f cdv A outer s H E).xe := passes_of rfl
end DL
end
section
set_option Elab.async false
set_option linter.all false
set_option maxRecDepth 100000
set_option maxHeartbeats 4000000
/-! heard(lambda: e): try: return ("told", call()) / except X as e: return (w, e.thing, isinstance(e, Y)) / except ... -/
namespace DL
open PySem PySem.Spec PyProof.Rows L2 LamX
/-- err.f in an except suite, the class told by the reading -/
def tXfY (K : PySem.W.Frag) (a : Addr) (cls : Value) (d : Option Addr) (f : Str) (te : TE) : TE := fun σ H Q => te σ H fun x H1 => x = .ref a ∧ ∃ (C dd : Addr) (fs : List (Str × V)) (v : V), XfC K C ∧ PySem.W.findIn K (.ref C) f = some none ∧ cls = .ref C ∧ d = some dd ∧ H1 dd = some (.xd fs) ∧ fs.lookup f = some v ∧ Q v H1
theorem pe_xfY {X : Cx} {a : Addr} {oe : Obj} {cls : Value} {d : Option Addr} {pn : List (Addr × Obj)} {e : Expr} {te : TE} {pos : Pos} {n : Str}
    (hz : Zc cls d oe) (hf : ∃ vs, oe.data = .fields vs) (he : PE (X.suite a ((a, oe) :: pn)) e te) (hb : attributeBase e n X.env (eval e X.env) = eval e X.env := by rfl) :
    PE (X.suite a ((a, oe) :: pn)) (.Attribute e n pos) (tXfY X.K a cls d n te) := by
  refine ⟨fun pins s σ H Q I h => ?_⟩
  refine attr_of hb (thn (he.run pins s σ H _ I h) fun u s1 hh => ?_)
  obtain ⟨x, H1, I1, rx, ex, C, dd, fs, v, T, hno, ec, ed, ea, l, q⟩ := hh
  subst ex
  obtain rfl : u = Value.ref a := rx
  subst ec
  subst ed
  obtain ⟨ha, _⟩ := I1.pin (a, oe) (List.mem_append_left _ List.mem_cons_self)
  obtain ⟨vs, hd⟩ := hf
  have hx : ObjOk X.prog X.w H1 s1.heap dd (.xd fs) := I1.hok dd _ ea
  obtain ⟨mA, hns, hr⟩ := hx
  obtain ⟨od, ho, hl⟩ := lookIn_ns hns
  obtain ⟨u, hu, ru⟩ := RelO.some_of (v := v) (o := mA n) (by rw [← l]; exact hr n)
  have J : PySem.W.InstAt s1.heap a oe C (some od) := ⟨ha, hz.1, by unfold PySem.W.notCls; rw [hd] <;> rfl, by rw [hz.2]; exact ho⟩
  exact HandSPX.exc_get I1.kIn J T.ga T.gg T.exC (PySem.W.findObj_own T.hdC hno rfl (by rw [hl, hu])) (handed_of ru) ⟨v, H1, I1.tok _, ru, q⟩
/-- what a clause's class must say of an exception's class C -/
structure HdC (K : PySem.W.Frag) (YE C : Addr) : Prop where
  xf : XfC K C
  no : PySem.W.findIn K (.ref C) "thing" = some none
  ec : ExcC K C
  isY : PySem.W.kitOne K (.ref C) (.ref YE) = some true
/-- which clause takes the class C: its word -/
def Took (K : PySem.W.Frag) (c1 c2 : Value) (w1 w2 : Str) (C : Addr) (w : Str) : Prop :=
  (PySem.W.exmOne K (.ref C) c1 = some true ∧ w = w1) ∨ (PySem.W.exmOne K (.ref C) c1 = some false ∧ PySem.W.exmOne K (.ref C) c2 = some true ∧ w = w2)
def TTh (K : PySem.W.Frag) (YE : Addr) (c1 c2 : Value) (w0 w1 w2 : Str) : (XK → Hp → VK → Prop) → Hp → VK → Prop := fun tl H Q =>
  tl (fun cls d H' => ∃ (C dd : Addr) (v : V) (w : Str), cls = .ref C ∧ d = some dd ∧ H' dd = some (.xd [("thing", v)]) ∧ HdC K YE C ∧ Took K c1 c2 w1 w2 C w ∧ ∀ p, H' p = none → Q (.ref p) (upd H' p (.tup [.str w, v, .bl true])))
    H (fun v H' => ([V.str w0, v] : List V).length ≤ sizeLine ∧ ∀ p, H' p = none → Q (.ref p) (upd H' p (.tup [.str w0, v])))
section
variable {X : Cx}
/-- one clause's suite -/
theorem suite_pe {Z : Cx} {a : Addr} {oe : Obj} {cls : Value} {d : Option Addr} {pn : List (Addr × Obj)} {e wis wY : Str} {w : Str} {j} {p1 p2 p3 p4 p5 p6 p7 p8 p9 : Pos} {kt : Nat} {YE : Addr} {i : Nat}
    (hz : Zc cls d oe) (hf : ∃ vs, oe.data = .fields vs) (hN : Z.N[i]? = some e) (hv : Vis Z.env.scope e) (hde : (e == ("__debug__" : Str)) = false) (hcd : (e == ("__classdict__" : Str)) = false)
    (hgi : Gl Z "isinstance") (hmi : Z.mg "isinstance" = none) (hgY : Gl Z wY) (hmY : Z.mg wY = some (.ref YE)) (hdY : (wY == ("__debug__" : Str)) = false)
    (hb : attributeBase (.Name e p3) "thing" Z.env (eval (.Name e p3) Z.env) = eval (.Name e p3) Z.env) :
    PSs (Z.suite a ((a, oe) :: pn)) [.Return (some (.Tuple [.Constant (.str w) j p1, .Attribute (.Name e p3) "thing" p2, .Call (.Name "isinstance" p4) [.Name e p5, .Name wY p6] [] p7] kt p8)) p9]
      (fun D σ H => (i < σ.length → σ[i]? = some (some (.ref a))) ∧ ∃ (C dd : Addr) (v : V), HdC Z.K YE C ∧ cls = .ref C ∧ d = some dd ∧ H dd = some (.xd [("thing", v)]) ∧ ∀ p, H p = none → D.rt (.ref p) (upd H p (.tup [.str w, v, .bl true]))) := by
  have key : PSs (Z.suite a ((a, oe) :: pn)) [.Return (some (.Tuple [.Constant (.str w) j p1, .Attribute (.Name e p3) "thing" p2, .Call (.Name "isinstance" p4) [.Name e p5, .Name wY p6] [] p7] kt p8)) p9]
      (fun D σ H => σ[i]? = some (some (.ref a)) ∧ ∃ (C dd : Addr) (v : V), HdC Z.K YE C ∧ cls = .ref C ∧ d = some dd ∧ H dd = some (.xd [("thing", v)]) ∧ ∀ p, H p = none → D.rt (.ref p) (upd H p (.tup [.str w, v, .bl true]))) := by
   refine PSs.mono (pss_one (ps_ret (pe_tup (pa_cons pe_str (pa_cons (pe_xfY hz hf (pe_var (i := i) hN hv hde hcd) hb) (pa_cons (pe_callB (call_isY hz hf) hgi hmi (by with_unfolding_all rfl) (pa_cons (pe_var (i := i) hN hv hde hcd) (pa_cons (pe_glob hgY hmY (v := V.ref YE) rfl hdY) pa_nil))) pa_nil)))))) ?_
   rintro D σ H ⟨hs, C, dd, v, hC, rfl, rfl, hd, q⟩
   refine ⟨_, hs, rfl, C, dd, _, v, hC.xf, hC.no, rfl, rfl, hd, by simp [List.lookup], ?_⟩
   refine ⟨_, hs, ?_⟩
   refine ⟨C, dd, _, .ref YE, .ref YE, true, rfl, rfl, hd, hC.ec, rfl, fun u h => h, hC.isY, ?_⟩
   exact ⟨by show 3 ≤ sizeLine; rw [sizeLine_eq]; omega, fun p np => q p np⟩
  have hl : i < Z.N.length := (List.getElem?_eq_some_iff.mp hN).1
  exact ⟨fun pins s σ H D I ⟨h1, h2⟩ => key.run pins s σ H D I ⟨h1 (by rw [I.len]; exact hl), h2⟩⟩
theorem heard_gives {Ng : List Str} {x a e q x1 x2 wY w0 w1 w2 : Str} {sg : Scope} {g A1 A2 YE : Addr} {cdg : Value} {j0 j1 j2} {kt0 kt1 kt2 : Nat} {p1 p2 p3 p4 p5 p6 p7 p8 p9 p10 p11 p12 p13 p14 p15 p16 p17 p18 p19 p20 p21 p22 p23 p24 p25 p26 p27 p28 : Pos} {rest : List Stmt}
    (h0 : ∀ f : Addr, (L2.start Ng [V.ref f])[0]? = some (some (V.ref f))) (hl : Ng.length = 2) (hNe : Ng[1]? = some e) (hNd : Ng.Nodup) (hle : sg.names.lookup e = some .local) (hde : (e == ("__debug__" : Str)) = false) (hcd : (e == ("__classdict__" : Str)) = false)
    (hg1 : sg.names.lookup x1 = some .globalImplicit) (hd1 : (x1 == ("__debug__" : Str)) = false) (hm1 : X.mg x1 = some (.ref A1)) (hg2 : sg.names.lookup x2 = some .globalImplicit) (hd2 : (x2 == ("__debug__" : Str)) = false) (hm2 : X.mg x2 = some (.ref A2))
    (hgi : sg.names.lookup ("isinstance" : Str) = some .globalImplicit) (hmi : X.mg "isinstance" = none) (hgY : sg.names.lookup wY = some .globalImplicit) (hmY : X.mg wY = some (.ref YE)) (hdY : (wY == ("__debug__" : Str)) = false) :
    GivesTo X Ng x sg g cdg (.Try [.Return (some (.Tuple [.Constant (.str w0) j0 p1, .Call (.Name a p2) [] [] p3] kt0 p4)) p5]
      [.ExceptHandler (some (.Name x1 p6)) (some e) [.Return (some (.Tuple [.Constant (.str w1) j1 p7, .Attribute (.Name e p8) "thing" p9, .Call (.Name "isinstance" p10) [.Name e p11, .Name wY p12] [] p13] kt1 p14)) p15] p16,
       .ExceptHandler (some (.Name x2 p17)) (some e) [.Return (some (.Tuple [.Constant (.str w2) j2 p18, .Attribute (.Name e p19) "thing" p20, .Call (.Name "isinstance" p21) [.Name e p22, .Name wY p23] [] p24] kt2 p25)) p26] p27] [] [] p28 :: rest) a q (TTh X.K YE (.ref A1) (.ref A2) w0 w1 w2) := by
  intro f c' s H Q tl act hc h
  have suite : ∀ (w : Str) (j : _) (q1 q2 q3 q4 q5 q6 q7 q8 q9 : Pos) (kt : Nat) (a' : Addr) (oe : Obj) (cls : Value) (d : Option Addr) (pn : List (Addr × Obj)), Zc cls d oe → (∃ vs, oe.data = .fields vs) → _ := fun w j q1 q2 q3 q4 q5 q6 q7 q8 q9 kt a' oe cls d pn hz hf =>
    suite_pe (Z := (cxOf C8.CX0 X.prog X.w X.K X.mg X.base Ng x sg g cdg X.A X.stack s H C8.E0).nox) (a := a') (oe := oe) (cls := cls) (d := d) (pn := pn) (w := w) (j := j) (p1 := q1) (p2 := q2) (p3 := q3) (p4 := q4) (p5 := q5) (p6 := q6) (p7 := q7) (p8 := q8) (p9 := q9) (kt := kt) (YE := YE) (wis := e)
      hz hf hNe (.inl hle) hde hcd hgi hmi hgY hmY hdY (by rfl)
  refine ⟨_, pss_cons (ps_try_asM (X := (cxOf C8.CX0 X.prog X.w X.K X.mg X.base Ng x sg g cdg X.A X.stack s H C8.E0).nox)
      (tb := fun W D σ H => ∃ Ech : XK, (∀ cls d σ' H', Ech cls d H' → W cls d σ' H') ∧ σ[0]? = some (some (.ref f)) ∧ H c' = some (CodeO c' q) ∧ tl Ech H (fun v H' => ([V.str w0, v] : List V).length ≤ sizeLine ∧ ∀ p, H' p = none → D.rt (.ref p) (upd H' p (.tup [.str w0, v]))))
      rfl rfl hNd LamX.takes0 (fun W pn xe tk _ => ?_) (.cons ⟨hg1, hd1, .inl hm1⟩ hNe hle (fun a oe cls d pn hz hf => suite _ _ _ _ _ _ _ _ _ _ _ _ a oe cls d pn hz hf) (.cons ⟨hg2, hd2, .inl hm2⟩ hNe hle (fun a oe cls d pn hz hf => suite _ _ _ _ _ _ _ _ _ _ _ _ a oe cls d pn hz hf) .nil))) pss_never, ?_⟩
  · refine ⟨fun pins s' σ H' D I h' => ?_⟩
    obtain ⟨Ech, hW, h1, h2, h3⟩ := h'
    have hp := act W pn xe Ech p2 p3 tk hW
    have hq := pss_one (ps_ret (pos := p5) (pe_tup (x1 := kt0) (pos := p4) (pa_cons (pe_str (x := w0) (j := j0) (pos := p1)) (pa_cons hp pa_nil))))
    exact hq.run pins s' σ H' D I ⟨h1, h2, h3⟩
  · refine ⟨_, fun cls d σ' H' ⟨C, dd, v, w, e1, e2, e3, hC, tk, qq⟩ => ?_, h0 f, hc, h⟩
    subst e1
    subst e2
    rcases tk with ⟨t1, rfl⟩ | ⟨t1, t2, rfl⟩
    · exact ⟨true, t1, fun _ a _ => ⟨fun hlt => List.getElem?_set_self (by simpa using hlt), C, dd, v, hC, rfl, rfl, e3, qq⟩, fun z => by cases z⟩
    · exact ⟨false, t1, (fun z => by cases z), fun _ => ⟨true, t2, fun _ a _ => ⟨fun hlt => List.getElem?_set_self (by simpa using hlt), C, dd, v, hC, rfl, rfl, e3, qq⟩, fun z => by cases z⟩⟩
end
end DL
end
section
set_option Elab.async false
set_option linter.all false
set_option maxRecDepth 100000
set_option maxHeartbeats 4000000
/-! heard over data. -/
namespace DL
open PySem PySem.Spec PyProof.Rows L2 LamX
def OneTb (P : Addr) (q : Str) (G : Gp) : Prop := G P = some (.tb q) ∧ ∀ a r, G a = some (.tb r) → a = P
theorem OneTb.up {P p : Addr} {q : Str} {G : Gp} {o : DO} (h : OneTb P q G) (n : p ≠ P) (ht : ∀ r, o ≠ .tb r) : OneTb P q (up G p o) := ⟨by rw [up_ne (Ne.symm n)]; exact h.1, fun a r e => by
  by_cases z : a = p
  · subst z
    rw [up_same] at e
    exact absurd (Option.some.inj e) (ht r)
  · rw [up_ne z] at e
    exact h.2 a r e⟩
section
variable {K : PySem.W.Frag} {mg : Mg} {H H1 : Hp} {G : Gp} {P : Addr} {q : Str}
theorem keep_ext (e : ExtN H H1) : TupKeep K H H1 := ⟨fun a vs h => by
  rcases h with (h | ⟨o, h⟩) | h
  · exact .inl (.inl (e a _ h (fun ps z => by cases z)))
  · exact .inl (.inr ⟨o, e a _ h (fun ps z => by cases z)⟩)
  · exact .inr h, fun c q h => e c _ h (fun ps => codeO_ne ps)⟩
theorem rg_ext (rg : RG K mg H G) (o : OneTb P q G) (e : ExtN H H1) (T : Tabs [(P, q)] H1) : RG K mg H1 G := fun a d hd => by
  have h := rg a d hd
  have kp := keep_ext (K := K) e
  cases d with
  | lst l => obtain ⟨vs, h1, h2, h3⟩ := h; exact ⟨vs, e a _ h1 (fun ps z => by cases z), h2.mono kp, h3⟩
  | fl l => obtain ⟨ob, vs, h1, h2, h3⟩ := h; exact ⟨ob, vs, e a _ h1 (fun ps z => by cases z), h2.mono kp, h3⟩
  | dk l => obtain ⟨vs, h1, h2, h3⟩ := h; exact ⟨vs, e a _ h1 (fun ps z => by cases z), h2.mono kp, h3⟩
  | dn l =>
    obtain ⟨xs, h1, h2, h3, h4⟩ := h
    exact ⟨xs, e a _ h1 (fun ps z => by unfold NestO at z; cases z), h2, Paired.mapP h3 fun _ _ z => RN.mono kp z, h4⟩
  | dnl ob l =>
    obtain ⟨h1, h2, h3, h4⟩ := h
    exact ⟨e a _ h1 (fun ps z => by cases z), h2, Paired.mapP h3 fun _ _ z => RN.mono kp z, h4⟩
  | tb r =>
    obtain rfl := o.2 a r hd
    have := o.1
    rw [hd] at this
    cases this
    exact T (a, q) (by simp)
theorem fr_ext (e : ExtN H H1) : Fr G G H H1 := ⟨fun a o h g n => ⟨e a o h n, g⟩⟩
end
/-- heard(lambda: e) -/
def dHeard (P : Addr) (q w0 : Str) (tk : Addr → Str → Prop) (t : TDX) : TD := fun env G Q => OneTb P q G ∧ t env G (fun v G1 => Q (.tup [.str w0, v]) G1) (fun C v G1 => ∃ w, tk C w ∧ Q (.tup [.str w, v, .bl true]) G1)
section
variable {X : Cx} {x a w0 w1 w2 : Str} {g c P YE : Addr} {c1 c2 : Value} {k : Nat} {pg : Arguments} {bg : List Stmt} {sg : Scope} {dV kV doc pm cdv ct oc : Value} {an od : Option Addr} {osl : Array (Option Value)} {Ng : List Str}
    {params : Arguments} {body : Expr} {scope : Scope} {t : TDX} {p lpos pos : Pos} {tk : Addr → Str → Prop}
theorem de_heard (hg : Gl X x) (hm : X.mg x = some (.ref g)) (hk : PySem.W.keepIn X.K (.ref g) = true)
    (lk : X.K.lookup g = some ⟨oc, od, .func (PySem.W.fnOf x x pg bg sg dV kV doc pm an cdv ct), osl⟩) (hcg : PySem.W.codeIn X.K cdv x = true) (hb : L2.Binds X.K (PySem.W.fnOf x x pg bg sg dV kV doc pm an cdv ct) [a] []) (Sg : FnScope Ng [a] sg) (hNg : Ng[0]? = some a) (hva : Vis sg a)
    (hG : GivesTo X Ng x sg g cdv bg a (X.env.qual ++ "<lambda>") (TTh X.K YE c1 c2 w0 w1 w2)) (htk : ∀ C w, tk C w → HdC X.K YE C ∧ Took X.K c1 c2 w1 w2 C w)
    (TB : TabB X.base X.mg c P) (hcode : X.env.code = .ref c) (hr : Room (k + 2) X.A) (L : LamS X.env.scope scope) (hdef : defaultsOf params X.env = ([], []))
    (hbind : ∀ (q : Str) (cl : List (Str × Addr)) (pm cv ctv : Value), bindArgs (PySem.W.kla_fn "<lambda>" q params body scope cl pm cv ctv) ⟨[], []⟩ = pure [])
    (hbody : ∀ (A : Around) (outer : List Env) (s : Shared) (H : Hp) (E : XK) (f c' : Addr), Room k (A.deeper (lamEnv X scope s.heap.objs.size f c')) → DEX (lamCx X A outer s H E scope f c') body t)
    (hdb : (x == ("__debug__" : Str)) = false := by decide) (hd : (a == ("__debug__" : Str)) = false := by decide) (hcd : (a == ("__classdict__" : Str)) = false := by decide) :
    DE X (.Call (.Name x p) [.Lambda params body scope lpos] [] pos) (dHeard P (X.env.qual ++ "<lambda>") w0 tk t) := by
  refine de_of (pe_lamcall (T := [(P, X.env.qual ++ "<lambda>")]) (t := fun E => fun σ H Qv => ∃ env G Q QX, RSt X.K X.m H env σ ∧ RG X.K X.m H G ∧ t env G Q QX ∧ Ko X G H Q Qv ∧ KoX X G H QX fun C d H' => E (.ref C) (some d) H')
    hg hm hk lk hcg hb Sg hNg hva hG TB hcode (by simp) (fun p hp _ => by simp at hp; rw [hp]) hr L hdef hbind (fun A outer s H E ff c' hr' => ?_) hdb hd hcd) fun σ H env G Q Qv rs rg ⟨o, h⟩ k => ?_
  · refine PE.mono (hbody A outer s H E ff c' hr') fun σ H' Qv ⟨env, G, Q, QX, rs, rg, h, k, kx⟩ => ⟨env, G, Q, QX, rs, rg, h, k, fun C y G1 v d H1 q r rg1 f e1 e2 => ?_⟩
    exact wpX_of (W := fun cls d _ H => E cls d H) (takes_of (X := lamCx X A outer s H E scope ff c') (E := E) rfl rfl rfl rfl) (kx C y G1 v d H1 q r rg1 f e1 e2)
  · refine ⟨fun p hp => ?_, fun H1 eN T1 => ?_⟩
    · simp at hp
      subst hp
      exact rg P _ o.1
    · have rg1 := rg_ext rg o eN T1
      have f1 : Fr G G H H1 := fr_ext eN
      refine ⟨env, G, _, _, rs.mono (keep_ext eN), rg1, h, fun v G2 u H2 q r rg2 f2 => ⟨by show 2 ≤ sizeLine; rw [sizeLine_eq]; omega, fun p np => ?_⟩, fun C y G2 u d H2 ⟨w, hw, q⟩ r rg2 f2 e1 e2 => ?_⟩
      · have tkp := keep_new (K := X.K) (o := .tup [.str w0, u]) np
        exact k _ G2 _ _ q (rv_tup (.inl (.inl upd_same)) (rvs_cons rv_str (rvs_cons (r.mono tkp) rvs_nil)) (by show 2 ≤ sizeLine; rw [sizeLine_eq]; omega)) (rg2.new np) (f1.trans (f2.trans (Fr.new np)))
      · obtain ⟨hC, hT⟩ := htk C w hw
        refine ⟨C, d, u, w, rfl, rfl, e1, hC, hT, fun p np => ?_⟩
        have tkp := keep_new (K := X.K) (o := .tup [.str w, u, .bl true]) np
        exact k _ G2 _ _ q (rv_tup (.inl (.inl upd_same)) (rvs_cons rv_str (rvs_cons (r.mono tkp) (rvs_cons rv_bl rvs_nil))) (by show 3 ≤ sizeLine; rw [sizeLine_eq]; omega)) (rg2.new np) (f1.trans (f2.trans (Fr.new np)))
end
end DL
end
section
set_option Elab.async false
set_option linter.all false
set_option maxRecDepth 100000
set_option maxHeartbeats 4000000
/-! Dicts whose keys are (nested) tuples. -/
namespace DL
open PySem PySem.Spec PyProof.Rows L2
section
variable {X : Cx} {pins : List (Addr × Obj)} {σ : L2.St} {H : Hp} {s : Shared}
mutual
theorem rv_nest (I : Inv X pins σ H s) : ∀ {d : D} {v : V} {u : Value} {k : NestedKey}, nk d = some k → Rv X.K X.m H d v → RelV v u → NestedIs s.heap k u
  | .non, v, u, k, e, r, q => by
    rw [nk] at e
    cases e
    rw [rv_non_inv r] at q
    obtain rfl : u = Value.none := q
    exact .none
  | .int i, v, u, k, e, r, q => by
    rw [nk] at e
    cases e
    rw [rv_int_inv r] at q
    obtain ⟨t, rfl⟩ := (show ∃ t, u = Value.int i t from q)
    exact .int i t
  | .str x, v, u, k, e, r, q => by
    rw [nk] at e
    cases e
    rw [rv_str_inv r] at q
    obtain ⟨t, rfl⟩ := (show ∃ t, u = Value.str x t from q)
    exact .text x t
  | .tup l, v, u, k, e, r, q => by
    rw [nk] at e
    obtain ⟨a, vs, rfl, h1, h2, _⟩ := rv_tup_inv r
    obtain rfl : u = Value.ref a := q
    cases e2 : nks l with
    | none => rw [e2] at e; cases e
    | some ks =>
      rw [e2] at e
      cases e
      obtain ⟨its, rv, ⟨o, ho, hc, n, hd⟩, hz⟩ := I.tuple h1
      exact .tup ho hc hd (by simpa using rvs_nest I e2 h2 rv)
  | .bl _, _, _, _, e, _, _ => by rw [nk] at e <;> first | cases e | (intros; contradiction)
  | .ref _, _, _, _, e, _, _ => by rw [nk] at e <;> first | cases e | (intros; contradiction)
  | .gl _, _, _, _, e, _, _ => by rw [nk] at e <;> first | cases e | (intros; contradiction)
  | .ty _, _, _, _, e, _, _ => by rw [nk] at e <;> first | cases e | (intros; contradiction)
theorem rvs_nest (I : Inv X pins σ H s) : ∀ {l : List D} {vs : List V} {us : List Value} {ks : List NestedKey}, nks l = some ks → Rvs X.K X.m H l vs → Vals vs us → NestedAll s.heap ks us
  | [], vs, us, ks, e, r, q => by
    rw [nks] at e
    cases e
    rw [rvs_nil_inv r] at q
    cases q
    exact .nil
  | d :: l, vs, us, ks, e, r, q => by
    rw [nks] at e
    obtain ⟨v, ws, rfl, r1, r2⟩ := rvs_cons_inv r
    cases q with
    | cons q1 q2 =>
      cases e1 : nk d with
      | none => rw [e1] at e; cases e
      | some k =>
        cases e2 : nks l with
        | none => rw [e1, e2] at e; cases e
        | some ks' =>
          rw [e1, e2] at e
          cases e
          exact .cons (rv_nest I e1 r1 q1) (rvs_nest I e2 r2 q2)
end
abbrev Nx := List (NestedKey × Addr × Value)
def dnOf (G : Gp) (a : Addr) : Option (List (NestedKey × D × D)) := match G a with
  | some (.dn k) => some k
  | some (.dnl _ k) => some k
  | _ => none
theorem dnOf_dn {G : Gp} {a : Addr} {k : List (NestedKey × D × D)} (h : G a = some (.dn k)) : dnOf G a = some k := by unfold dnOf; rw [h]
theorem dnOf_dnl {G : Gp} {a : Addr} {ob : Obj × Nx} {k : List (NestedKey × D × D)} (h : G a = some (.dnl ob k)) : dnOf G a = some k := by unfold dnOf; rw [h]
theorem dn_core {a : Addr} {kvs : List (NestedKey × D × D)} {xs : Nx} (I : Inv X pins σ H s) (ok : NestF X.prog X.w a xs s.heap) (h3 : Paired (RN X.K X.m H) kvs xs) : s.heap.DictOfH (nestedKind X.prog X.w) a xs ∧ (a == sysModules) = false := by
  obtain ⟨o, es, ep, q1, q2, q3, q4, q5, q6⟩ := ok
  refine ⟨⟨o, es, ep, q1, q2, q3, q4, fun x hx => ?_, q5⟩, q6⟩
  have key : ∀ {kvs : List (NestedKey × D × D)} {xs : Nx}, Paired (RN X.K X.m H) kvs xs → ∀ x ∈ xs, (nestedKind X.prog X.w).is s.heap x.1 x.2.1 := by
    intro kvs xs p
    induction p with
    | nil => intro x hx; cases hx
    | @cons p q ps qs h t ih =>
      intro x hx
      rcases List.mem_cons.mp hx with rfl | hx
      · obtain ⟨e1, e2, e3, e4, _⟩ := h
        refine ⟨?_, by rw [← e1]; exact e3⟩
        exact rv_nest I (by rw [← e1]; exact e2) e4 rfl
      · exact ih x hx
  exact key h3 x hx
theorem dn_own {G : Gp} {a : Addr} {kvs : List (NestedKey × D × D)} (I : Inv X pins σ H s) (rg : RG X.K X.m H G) (e : G a = some (.dn kvs)) : ∃ xs : Nx, H a = some (NestO X.prog X.w a xs) ∧ Paired (RN X.K X.m H) kvs xs ∧ s.heap.DictOfH (nestedKind X.prog X.w) a xs ∧ (a == sysModules) = false ∧ kvs.length ≤ sizeLine := by
  obtain ⟨xs, h1, h2, h3, h4⟩ := rg a _ e
  obtain ⟨a1, a2⟩ := dn_core I (I.hok a _ h1).1 h3
  exact ⟨xs, h1, h3, a1, a2, h4⟩
/-- a locked dict of the store, on the heap -/
theorem dn_lck {G : Gp} {a : Addr} {ob : Obj × Nx} {kvs : List (NestedKey × D × D)} (I : Inv X pins σ H s) (rg : RG X.K X.m H G) (e : G a = some (.dnl ob kvs)) : H a = some (.frz ob.1 (NestO X.prog X.w a ob.2)) ∧ Paired (RN X.K X.m H) kvs ob.2 ∧ s.heap.DictOfH (nestedKind X.prog X.w) a ob.2 ∧ (a == sysModules) = false ∧ kvs.length ≤ sizeLine ∧ s.heap.get? a = some ob.1 := by
  obtain ⟨h1, h2, h3, h4⟩ := rg a _ e
  have z := I.hok a _ h1
  obtain ⟨a1, a2⟩ := dn_core I z.2.1 h3
  exact ⟨h1, h3, a1, a2, h4, z.1⟩
theorem dn_at {G : Gp} {a : Addr} {kvs : List (NestedKey × D × D)} (I : Inv X pins σ H s) (rg : RG X.K X.m H G) (e : dnOf G a = some kvs) : ∃ xs : Nx, Paired (RN X.K X.m H) kvs xs ∧ s.heap.DictOfH (nestedKind X.prog X.w) a xs ∧ (a == sysModules) = false ∧ kvs.length ≤ sizeLine := by
  unfold dnOf at e
  split at e
  · rename_i k q
    cases e
    obtain ⟨xs, _, h⟩ := dn_own I rg q
    exact ⟨xs, h⟩
  · rename_i ob k q
    cases e
    obtain ⟨_, h1, h2, h3, h4, _⟩ := dn_lck I rg q
    exact ⟨_, h1, h2, h3, h4⟩
  · cases e
def valN (kvs : List (NestedKey × D × D)) (k : NestedKey) : Option D := (kvs.find? fun x => decide (x.1 = k)).map (·.2.2)
def putN (kvs : List (NestedKey × D × D)) (k : NestedKey) (x v : D) : List (NestedKey × D × D) :=
  if (valN kvs k).isSome = true then kvs.map (fun e => if e.1 = k then (e.1, e.2.1, v) else e) else kvs ++ [(k, x, v)]
theorem rn_val {k : NestedKey} : ∀ {kvs : List (NestedKey × D × D)} {xs : Nx}, Paired (RN X.K X.m H) kvs xs → match valN kvs k with
    | none => atKey xs k = none
    | some d => ∃ p, atKey xs k = some p ∧ ∃ v, RelV v p.2 ∧ Rv X.K X.m H d v
  | _, _, .nil => rfl
  | p :: l, q :: m, .cons h t => by
    have ih := rn_val (k := k) t
    unfold valN atKey
    by_cases e : p.1 = k
    · rw [List.find?_cons_of_pos (by simpa using e), List.find?_cons_of_pos (by simpa [← h.1] using e)]
      exact ⟨_, rfl, h.2.2.2.2⟩
    · rw [List.find?_cons_of_neg (by simpa using e), List.find?_cons_of_neg (by simpa [← h.1] using e)]
      exact ih
theorem rn_map {k : NestedKey} {d : D} {v : V} {u : Value} (r : Rv X.K X.m H d v) (q : RelV v u) : ∀ {kvs : List (NestedKey × D × D)} {xs : Nx}, Paired (RN X.K X.m H) kvs xs → Paired (RN X.K X.m H) (kvs.map fun e => if e.1 = k then (e.1, e.2.1, d) else e) (xs.map (putAt k u))
  | _, _, .nil => .nil
  | p :: l, x :: m, .cons h t => by
    rw [List.map_cons, List.map_cons]
    refine .cons ?_ (rn_map r q t)
    unfold putAt
    rw [← h.1]
    by_cases e : p.1 = k
    · rw [if_pos e, if_pos e]; exact ⟨h.1 ▸ rfl, h.2.1, h.2.2.1, h.2.2.2.1, v, q, r⟩
    · rw [if_neg e, if_neg e]; exact h
theorem paired_app {α β : Type} {R : α → β → Prop} : ∀ {l l' : List α} {m m' : List β}, Paired R l m → Paired R l' m' → Paired R (l ++ l') (m ++ m')
  | _, _, _, _, .nil, t => t
  | _, _, _, _, .cons h r, t => .cons h (paired_app r t)
theorem rn_put {k : NestedKey} {x d : D} {b : Addr} {v : V} {u : Value} (hx : nk x = some k) (hd : k.depth ≤ 8) (rx : Rv X.K X.m H x (.ref b)) (r : Rv X.K X.m H d v) (q : RelV v u) {kvs : List (NestedKey × D × D)} {xs : Nx} (h : Paired (RN X.K X.m H) kvs xs) :
    Paired (RN X.K X.m H) (putN kvs k x d) (storedH xs k b u) := by
  unfold putN storedH
  have f := rn_val (k := k) h
  cases e : valN kvs k with
  | none =>
    rw [e] at f
    rw [f]
    exact paired_app h (.cons ⟨rfl, hx, hd, rx, v, q, r⟩ .nil)
  | some d' =>
    rw [e] at f
    obtain ⟨p, hp, _⟩ := f
    rw [hp]
    exact rn_map r q h
theorem putN_length (kvs : List (NestedKey × D × D)) (k : NestedKey) (x v : D) : (putN kvs k x v).length ≤ kvs.length + 1 := by
  unfold putN
  split
  · rw [List.length_map]; omega
  · rw [List.length_append]; exact Nat.le_refl _
end
theorem paired_len {α β : Type} {R : α → β → Prop} {l : List α} {m : List β} (h : Paired R l m) : l.length = m.length := Paired.length h
/-! ### in, not in -/
section
variable {X : Cx}
def rInN (X : Cx) (f : Bool → Bool) : R2 := fun x y H Q => ∃ (a : Addr) (G : Gp) (kvs : List (NestedKey × D × D)) (dx : D) (k : NestedKey) (b : Addr), y = .ref a ∧ RG X.K X.m H G ∧ dnOf G a = some kvs ∧ nk dx = some k ∧ k.depth ≤ 8 ∧ x = .ref b ∧ Rv X.K X.m H dx x ∧ Q (.bl (f (valN kvs k).isSome)) H
theorem isSome_eq {H : Hp} {k : NestedKey} {kvs : List (NestedKey × D × D)} {xs : Nx} (h : Paired (RN X.K X.m H) kvs xs) : (valN kvs k).isSome = (atKey xs k).isSome := by
  have f := rn_val (k := k) h
  cases e : valN kvs k with
  | none => rw [e] at f; rw [f]; rfl
  | some d => rw [e] at f; obtain ⟨p, hp, _⟩ := f; rw [hp]; rfl
theorem op_inN (hu : X.A.units + 64 < cLine) : OpR X (compareOp .In) (rInN X id) := by
  intro pins s σ H x y v u Q I rx ry ⟨a, G, kvs, dx, k, b, ey, rg, e, hk, hd, ex, r, q⟩
  subst ey ex
  obtain rfl : u = Value.ref a := ry
  obtain rfl : v = Value.ref b := rx
  obtain ⟨xs, h2, h3, h4, _⟩ := dn_at I rg e
  refine in_keyed (knd := nestedKind X.prog X.w) (show X.A.units + 1 + 8 < cLine by omega) ⟨rv_nest I hk r rfl, hd⟩ h4 ⟨xs, h3, rfl⟩ ?_
  rw [valueAt_pairsH, Option.isSome_map, ← isSome_eq h2]
  exact ⟨.bl _, H, I.tok _, rfl, q⟩
theorem op_ninN (hu : X.A.units + 64 < cLine) : OpR X (compareOp .NotIn) (rInN X not) := by
  intro pins s σ H x y v u Q I rx ry ⟨a, G, kvs, dx, k, b, ey, rg, e, hk, hd, ex, r, q⟩
  subst ey ex
  obtain rfl : u = Value.ref a := ry
  obtain rfl : v = Value.ref b := rx
  obtain ⟨xs, h2, h3, h4, _⟩ := dn_at I rg e
  refine notIn_keyed (knd := nestedKind X.prog X.w) (show X.A.units + 1 + 8 < cLine by omega) ⟨rv_nest I hk r rfl, hd⟩ h4 ⟨xs, h3, rfl⟩ ?_
  rw [valueAt_pairsH, Option.isSome_map, ← isSome_eq h2]
  exact ⟨.bl _, H, I.tok _, rfl, q⟩
def oInN (f : Bool → Bool) : RD2 := fun x y G Q => ∃ a kvs l k, x = .tup l ∧ y = .ref a ∧ dnOf G a = some kvs ∧ nk (.tup l) = some k ∧ k.depth ≤ 8 ∧ Q (.bl (f (valN kvs k).isSome)) G
theorem oInN_s (f : Bool → Bool) : OpS X (oInN f) (rInN X f) := fun x y G Q v u H Qv ⟨a, kvs, l, k, ex, ey, e, hk, hd, q⟩ rx ry rg kk => by
  subst ex ey
  obtain ⟨b, vs, rfl, _⟩ := rv_tup_inv rx
  exact ⟨a, G, kvs, _, k, b, rv_ref_inv ry, rg, e, hk, hd, rfl, rx, kk _ G _ H q rv_bl rg (Fr.refl _ _)⟩
/-! ### d[k] -/
def rIxN (X : Cx) : R2 := fun x y H Q => ∃ (a : Addr) (G : Gp) (kvs : List (NestedKey × D × D)) (dy d : D) (k : NestedKey) (b : Addr), x = .ref a ∧ RG X.K X.m H G ∧ dnOf G a = some kvs ∧ nk dy = some k ∧ k.depth ≤ 8 ∧ y = .ref b ∧ Rv X.K X.m H dy y ∧ valN kvs k = some d ∧ ∀ v, Rv X.K X.m H d v → Q v H
theorem ix_dn (hu : X.A.units + 64 < cLine) : IxR X (rIxN X) := by
  intro value slice pins s σ H x y v u Q I rx ry ⟨a, G, kvs, dy, d, k, b, ex, rg, e, hk, hd, ey, r, hv, q⟩ hs
  subst ex ey
  obtain rfl : v = Value.ref a := rx
  obtain rfl : u = Value.ref b := ry
  obtain ⟨xs, h2, h3, h4, _⟩ := dn_at I rg e
  have f := rn_val (k := k) h2
  rw [hv] at f
  obtain ⟨p, hp, w, rw', rd⟩ := f
  exact tail_any h3.typeIs PySem.F.slot_dict_getitem.lookup (wpAny_getItem_heap (knd := nestedKind X.prog X.w) (show X.A.units + 1 + 8 < cLine by omega) ⟨rv_nest I hk r rfl, hd⟩ h3 hp ⟨w, H, I.tok _, rw', q w rd⟩) hs
def oIxN : RD2 := fun x y G Q => ∃ a kvs l k d, x = .ref a ∧ y = .tup l ∧ dnOf G a = some kvs ∧ nk (.tup l) = some k ∧ k.depth ≤ 8 ∧ valN kvs k = some d ∧ Q d G
theorem oIxN_s : OpS X oIxN (rIxN X) := fun x y G Q v u H Qv ⟨a, kvs, l, k, d, ex, ey, e, hk, hd, hv, q⟩ rx ry rg kk => by
  subst ex ey
  obtain ⟨b, vs, rfl, _⟩ := rv_tup_inv ry
  exact ⟨a, G, kvs, _, d, k, b, rv_ref_inv rx, rg, e, hk, hd, rfl, ry, hv, fun v r => kk _ G _ H q r rg (Fr.refl _ _)⟩
/-! ### {} -/
theorem nest_empty {P : Program} {w : World} {H : Hp} (h : Heap) (hb : sysModules < h.objs.size) : NestF P w h.objs.size [] (h.push { cls := .type "dict", data := .dict #[] }) :=
  ⟨_, #[], 0, Heap.get?_push_size _ rfl, ⟨rfl, rfl, rfl⟩, rfl, rfl, List.nodup_nil, beq_eq_false_iff_ne.mpr (Ne.symm (Nat.ne_of_lt hb))⟩
theorem nest_ok {P : Program} {w : World} {H : Hp} {h : Heap} {a : Addr} {xs : Nx} (f : NestF P w a xs h) : ObjOk P w H h a (NestO P w a xs) :=
  ⟨f, (let ⟨o, _, _, e, _⟩ := f; ⟨o, e⟩), fun h1 h2 ⟨o, es, ep, a1, a2⟩ k => ⟨o, es, ep, k _ a1, a2⟩⟩
def tDNewN (X : Cx) : TE := fun _ H Q => ∀ p, H p = none → (∃ h, NestF X.prog X.w p [] h) → Q (.ref p) (upd H p (NestO X.prog X.w p []))
theorem pe_dnewN {pos : Pos} : PE X (.Dict [] [] pos) (tDNewN X) := ⟨fun pins s σ H Q I h =>
  wpAny_Dict_empty ⟨.ref s.heap.objs.size, _, I.laid (a := s.heap.objs.size) (o := NestO X.prog X.w s.heap.objs.size []) (t' := s.toks) (fun _ _ q => Heap.get?_push_of_some _ q) (Nat.le_refl _) (nest_ok (nest_empty (H := H) s.heap I.big)), rfl, h _ (I.hok.fresh (Nat.le_refl _)) ⟨_, nest_empty (H := H) s.heap I.big⟩⟩⟩
def dDNewN : TD := fun _ G Q => ∀ p, G p = none → Q (.ref p) (up G p (.dn []))
theorem de_dnewN {pos : Pos} : DE X (.Dict [] [] pos) dDNewN := de_of pe_dnewN fun σ H env G Q Qv rs rg h k p np hf =>
  k _ _ _ _ (h p (rg.fresh np)) rv_ref (rg.newS np ⟨[], upd_same, hf, .nil, Nat.zero_le _⟩) (Fr.newS np)
/-! ### o[i] = v -/
abbrev RS3 := D → D → D → Gp → (Gp → Prop) → Prop
def SetS (X : Cx) (os : RS3) (r : TSet) : Prop := ∀ o i v G Q ov iv vv H Qv, os o i v G Q → Rv X.K X.m H o ov → Rv X.K X.m H i iv → Rv X.K X.m H v vv → RG X.K X.m H G → (∀ G' H', Q G' → RG X.K X.m H' G' → Fr G G' H H' → Qv H') → r ov iv vv H Qv
theorem PSet.or {r r' : TSet} (h : PSet X r) (h' : PSet X r') : PSet X (fun o i v H Q => r o i v H Q ∨ r' o i v H Q) := fun pins s σ H o i v ov iv u Q I ro ri rv q => q.elim (h pins s σ H o i v ov iv u Q I ro ri rv) (h' pins s σ H o i v ov iv u Q I ro ri rv)
theorem SetS.or {os os' : RS3} {r r' : TSet} (h : SetS X os r) (h' : SetS X os' r') : SetS X (fun o i v G Q => os o i v G Q ∨ os' o i v G Q) (fun o i v H Q => r o i v H Q ∨ r' o i v H Q) := fun o i v G Q ov iv vv H Qv q ro ri rv rg k =>
  q.elim (fun q => .inl (h o i v G Q ov iv vv H Qv q ro ri rv rg k)) fun q => .inr (h' o i v G Q ov iv vv H Qv q ro ri rv rg k)
def dgSub (to ti : TD) (os : RS3) : TDG := fun v env G Q => to env G fun o G1 => ti env G1 fun i G2 => os o i v G2 fun G3 => Q env G3
theorem dg_sub {o i : Expr} {to ti : TD} {os : RS3} {r : TSet} {pos : Pos} (ho : DE X o to) (hi : DE X i ti) (hp : PSet X r) (hs : SetS X os r)
    (ha : ∀ v, assign (.Subscript o i pos) X.env v = (do
      let ov ← holding [v] (eval o X.env)
      let iv ← holding [v, ov] (eval i X.env)
      standAt pos
      holding [v, ov, iv] (setItem ov iv v)
      release [v, ov, iv] []) := by intro _; rfl) : DG X (.Subscript o i pos) (dgSub to ti os) :=
  PG.mono (pg_sub ho hi hp ha) fun v σ H Qv ⟨d, env, G, Q, r, rs, rg, h, k⟩ => ⟨env, G, _, rs, rg, h, fun x G1 xv H1 q1 r1 rg1 f1 => ⟨env, G1, _, rs.mono (f1.keep rg), rg1, q1, fun y G2 yv H2 q2 r2 rg2 f2 =>
    hs x y d G2 _ xv yv v H2 _ q2 (r1.mono (f2.keep rg1)) r2 ((r.mono (f1.keep rg)).mono (f2.keep rg1)) rg2 fun G3 H3 q3 rg3 f3 => k env G3 σ H3 q3 (rs.mono ((f1.trans (f2.trans f3)).keep rg)) rg3 (f1.trans (f2.trans f3))⟩⟩
/-- a dict with keys ints and texts -/
def rSetK : TSet := fun o i v H Q => ∃ a H', o = .ref a ∧ DPut H a i v H' ∧ Q H'
theorem set_dk (hu : X.A.units + 1 < cLine) : PSet X rSetK := by
  intro pins s σ H o i v ov iv u Q I ro ri rv ⟨a, H', eo, g, q⟩
  subst eo
  obtain rfl : ov = Value.ref a := ro
  exact d_setItem hu I g ri rv fun s' I' => ⟨H', I', q⟩
def oSetK : RS3 := fun o i v G Q => ∃ a kvs k, o = .ref a ∧ G a = some (.dk kvs) ∧ keyOf i = some k ∧ kvs.length < sizeLine ∧ Q (up G a (.dk (putD kvs k v)))
theorem oSetK_s : SetS X oSetK rSetK := fun o i v G Q ov iv vv H Qv ⟨a, kvs, k, eo, e, hk, hz, q⟩ ro ri rv rg kk => by
  subst eo
  obtain ⟨ks, h1, h2, h3⟩ := rg a _ e
  have ei := rv_key ri hk
  refine ⟨a, upd H a (.dK (putK ks k vv)), rv_ref_inv ro, by rw [ei]; exact DPut.k h1 (by rw [← h2.length]; exact hz), ?_⟩
  refine kk _ _ q (rg.put e ⟨_, upd_same, (rk_put rv h2).mono (keep_put rg e), ?_⟩) (Fr.put e)
  have := putD_length kvs k v
  omega
/-- a list -/
def oSetL : RS3 := fun o i v G Q => ∃ a l k j, o = .ref a ∧ i = .int k ∧ G a = some (.lst l) ∧ ixN l.length k = some j ∧ Q (up G a (.lst (l.set j v)))
theorem oSetL_s : SetS X oSetL rSetL := fun o i v G Q ov iv vv H Qv ⟨a, l, k, j, eo, ei, e, hj, q⟩ ro ri rv rg kk => by
  subst eo ei
  obtain ⟨ws, h1, h2, h3⟩ := rg a _ e
  refine ⟨a, ws, k, j, rv_ref_inv ro, rv_int_inv ri, h1, by rw [← h2.length]; exact hj, kk _ _ q (rg.put e ⟨_, upd_same, (h2.set j rv).mono (keep_put rg e), by rw [List.length_set]; exact h3⟩) (Fr.put e)⟩
/-- a dict with tuple keys -/
def rSetN (X : Cx) : TSet := fun o i v H Q => ∃ (a : Addr) (G : Gp) (kvs : List (NestedKey × D × D)) (di dv : D) (k : NestedKey) (b : Addr), o = .ref a ∧ RG X.K X.m H G ∧ G a = some (.dn kvs) ∧ nk di = some k ∧ k.depth ≤ 8 ∧ i = .ref b ∧ Rv X.K X.m H di i ∧ Rv X.K X.m H dv v ∧ kvs.length < sizeLine ∧
  ∀ xs', (∃ h, NestF X.prog X.w a xs' h) → Paired (RN X.K X.m H) (putN kvs k di dv) xs' → Q (upd H a (NestO X.prog X.w a xs'))
theorem nest_mut {P : Program} {w : World} {a : Addr} {xs : Nx} : Mut (some (NestO P w a xs)) := by unfold NestO; exact True.intro
theorem set_dn (hu : X.A.units + 64 < cLine) : PSet X (rSetN X) := by
  intro pins s σ H o i v ov iv u Q I ro ri rv ⟨a, G, kvs, di, dv, k, b, eo, rg, e, hk, hd, ei, r, rd, hz, q⟩
  subst eo ei
  obtain rfl : ov = Value.ref a := ro
  obtain rfl : iv = Value.ref b := ri
  obtain ⟨xs, h1, h2, h3, h4, h5⟩ := dn_own I rg e
  refine wpAny_setItem_heap (knd := nestedKind X.prog X.w) (hsz := by rw [← Paired.length h2]; omega) (show X.A.units + 1 + 8 < cLine by omega) ⟨rv_nest I hk r rfl, hd⟩ h3 fun h' dd' hs => ?_
  obtain ⟨o', es, ep, g1, g2, g3, g4, g5, g6⟩ := dd'
  have hf : NestF X.prog X.w a (storedH xs k b u) h' := ⟨o', es, ep, g1, g2, g3, g4, g6, h4⟩
  exact ⟨_, d_write (t' := _) I (by rw [h1]; exact nest_mut) hs ⟨o', g1⟩ (nest_ok hf), q _ ⟨h', hf⟩ (rn_put hk hd r rd rv h2)⟩
def oSetN : RS3 := fun o i v G Q => ∃ a kvs l k, o = .ref a ∧ i = .tup l ∧ G a = some (.dn kvs) ∧ nk (.tup l) = some k ∧ k.depth ≤ 8 ∧ kvs.length < sizeLine ∧ Q (up G a (.dn (putN kvs k (.tup l) v)))
theorem oSetN_s : SetS X oSetN (rSetN X) := fun o i v G Q ov iv vv H Qv ⟨a, kvs, l, k, eo, ei, e, hk, hd, hz, q⟩ ro ri rv rg kk => by
  subst eo ei
  obtain ⟨b, vs, rfl, h1, h2, h3⟩ := rv_tup_inv ri
  refine ⟨a, G, kvs, .tup l, v, k, b, rv_ref_inv ro, rg, e, hk, hd, rfl, ri, rv, hz, fun xs' hf hp => kk _ _ q (rg.put e ⟨xs', upd_same, hf, Paired.mapP hp fun _ _ z => z.mono (keep_put rg e), ?_⟩) (Fr.put e)⟩
  have := putN_length kvs k (.tup l) v
  omega
end
end DL
end
section
set_option Elab.async false
set_option linter.all false
set_option maxRecDepth 100000
set_option maxHeartbeats 4000000
/-! Dicts with tuple keys: list(d), walks over keys, values, items. -/
namespace DL
open PySem PySem.Spec PyProof.Rows L2
section
variable {P : Program} {w : World}
/-- the entries of a dict on the heap -/
theorem nest_raw {d : Addr} {xs : Nx} {h : Heap} (f : NestF P w d xs h) : ∃ (o : Obj) (es : Array DictEntry) (ep : Nat), h.get? d = some o ∧ o.ExactDict ∧ o.data = .dict es ep ∧ es.size = xs.length ∧ (d == sysModules) = false ∧
    ∀ i (hi : i < es.size), ∃ y, xs[i]? = some y ∧ es[i].key = .ref y.2.1 ∧ es[i].val = y.2.2 := by
  obtain ⟨o, es, ep, q1, q2, q3, q4, q5, q6⟩ := f
  have hs := size_of_entries q4
  refine ⟨o, es, ep, q1, q2, q3, hs, q6, fun i hi => ?_⟩
  have hx : i < xs.length := hs ▸ hi
  have e := entry_at q4 i
  rw [Array.getElem?_eq_getElem hi, List.getElem?_eq_getElem hx, Option.map_some] at e
  have e' := Option.some.inj e
  exact ⟨xs[i], List.getElem?_eq_getElem hx, by rw [e']; rfl, by rw [e']; rfl⟩
end
section
variable {X : Cx}
theorem rn_keys {K : PySem.W.Frag} {m : Mg} {H : Hp} : ∀ {kvs : List (NestedKey × D × D)} {xs : Nx}, Paired (RN K m H) kvs xs → Rvs K m H (kvs.map (·.2.1)) (xs.map fun x => V.ref x.2.1)
  | _, _, .nil => rvs_nil
  | _, _, .cons h t => rvs_cons h.2.2.2.1 (rn_keys t)
theorem rn_at {K : PySem.W.Frag} {m : Mg} {H : Hp} : ∀ {kvs : List (NestedKey × D × D)} {xs : Nx} {i : Nat} {y : NestedKey × Addr × Value}, Paired (RN K m H) kvs xs → xs[i]? = some y → ∃ p, kvs[i]? = some p ∧ RN K m H p y
  | _, _, _, _, .nil, e => by simp at e
  | _, _, 0, y, .cons h t, e => by
    simp at e
    subst e
    exact ⟨_, rfl, h⟩
  | _, _, i + 1, y, .cons h t, e => by
    obtain ⟨p, e1, e2⟩ := rn_at (i := i) t (by simpa using e)
    exact ⟨p, by simpa using e1, e2⟩
theorem rn_at' {K : PySem.W.Frag} {m : Mg} {H : Hp} {kvs : List (NestedKey × D × D)} {xs : Nx} {i : Nat} {p : NestedKey × D × D} (h : Paired (RN K m H) kvs xs) (e : kvs[i]? = some p) : ∃ y, xs[i]? = some y ∧ RN K m H p y := by
  have hl := Paired.length h
  have hi : i < xs.length := by
    rw [← hl]
    exact (List.getElem?_eq_some_iff.mp e).1
  obtain ⟨p', e1, e2⟩ := rn_at h (List.getElem?_eq_getElem hi)
  rw [e] at e1
  cases e1
  exact ⟨_, List.getElem?_eq_getElem hi, e2⟩
/-! ### list(d) -/
def rListN (X : Cx) : List V → Hp → VK → Prop := fun vs H Q => ∃ (a : Addr) (G : Gp) (kvs : List (NestedKey × D × D)), vs = [.ref a] ∧ RG X.K X.m H G ∧ dnOf G a = some kvs ∧ ∀ p ws, H p = none → Rvs X.K X.m H (kvs.map (·.2.1)) ws → Q (.ref p) (upd H p (.lst ws))
theorem call_listN (hc : X.calm = true) : CallR X (.type "list") (rListN X) := by
  intro pins s σ H vs us Q I r h
  obtain ⟨a, G, kvs, rfl, rg, e, q⟩ := h
  obtain ⟨u, rfl, rx⟩ := r.one
  cases rx
  obtain ⟨xs, h2, ⟨o, es, ep, ho, hx, hdt, he, _, _⟩, hs, z⟩ := dn_at I rg e
  have l1 : es.size = xs.length := size_of_entries he
  have l2 : kvs.length = xs.length := Paired.length h2
  refine PySem.W.kdl_call (kdl_raw hs hx hdt) (I.ok.hd hc) ho (by omega) fun h' tk acc' c' kp e it => ?_
  have ea : acc'.toList = xs.map fun x => Value.ref x.2.1 := by
    have hl : acc'.toList.length = xs.length := by rw [Array.length_toList, it.1]; exact l1
    apply List.ext_getElem?
    intro j
    rw [List.getElem?_map]
    cases hj : acc'.toList[j]? with
    | none =>
      have h1 := List.getElem?_eq_none_iff.mp hj
      rw [List.getElem?_eq_none (by omega)]
      all_goals rfl
    | some v =>
      obtain ⟨en, hen, hv⟩ := it.2 j v (by rw [← Array.getElem?_toList]; exact hj)
      have qe := entry_at he j
      rw [hen] at qe
      cases hb : xs[j]? with
      | none =>
        rw [hb] at qe
        exact nomatch (show some en = none from qe)
      | some b =>
        rw [hb] at qe
        have e2 : en = entryOfKey (nestedKind X.prog X.w) b := Option.some.inj qe
        rw [hv, e2]
        all_goals rfl
  have rv : Vals (xs.map fun x => V.ref x.2.1) acc'.toList := by
    rw [ea]
    exact vals_maps _ _ xs fun z _ => rfl
  have hz : (xs.map fun x => V.ref x.2.1).length ≤ sizeLine := by rw [List.length_map]; omega
  refine ⟨.ref s.heap.objs.size, _, I.laid (t' := tk) (o := .lst (xs.map fun x => V.ref x.2.1)) kp (Nat.le_refl _) ?_, rfl, q _ _ (I.hok.fresh (Nat.le_refl _)) (rn_keys h2)⟩
  exact ⟨hz, acc'.toList, c', rv, by rw [Array.toArray_toList]; exact e⟩
def oListN : OC := fun ds G Q => ∃ a kvs, ds = [.ref a] ∧ dnOf G a = some kvs ∧ ∀ p, G p = none → Q (.ref p) (up G p (.lst (kvs.map (·.2.1))))
theorem dn_len {H : Hp} {G : Gp} {a : Addr} {kvs : List (NestedKey × D × D)} (rg : RG X.K X.m H G) (e : dnOf G a = some kvs) : kvs.length ≤ sizeLine := by
  unfold dnOf at e
  split at e
  · rename_i k q
    cases e
    obtain ⟨_, _, _, _, z⟩ := rg a _ q
    exact z
  · rename_i ob k q
    cases e
    obtain ⟨_, _, _, z⟩ := rg a _ q
    exact z
  · cases e
theorem oListN_s : CaS X oListN (rListN X) := fun ds G Q vs H Qv ⟨a, kvs, e, hl, q⟩ r rg k => by
  subst e
  obtain ⟨v, rfl, rv⟩ := one_inv r
  rw [rv_ref_inv rv]
  exact ⟨a, G, kvs, rfl, rg, hl, fun p ws np rw' => k _ _ _ _ (q p (rg.fresh np)) rv_ref (new_lst rg np rw' (by rw [List.length_map]; exact dn_len rg hl)) (Fr.newS np)⟩
/-! ### sorted(d) -/
open PySem.W PySem.Calls in
theorem sortD_heap {prog : Program} {w : World} {A : Around} {E : Value → Shared → Prop} {s : Shared} {d : Addr} {o : Obj} {es : Array DictEntry} {ep : Nat} {Q : Value → Shared → Prop} (hs : (d == sysModules) = false) (ho : s.heap.get? d = some o) (hx : o.ExactDict) (hdt : o.data = .dict es ep) (hh : A.handled = none) (hn : es.size ≤ sizeLine)
    (h : ∀ (h' : Heap) (tk : Nat) (vs : List Value), (∀ b o, s.heap.get? b = some o → h'.get? b = some o) → vs.length = es.size → (∀ (j : Nat) (v : Value), vs[j]? = some v → ∃ en : DictEntry, es[j]? = some en ∧ v = en.key) →
      wpAny (model prog w) A.in1 (call (.builtin "list.sort") [.ref h'.objs.size]) (fun _ s' => Q (.ref h'.objs.size) s') E { s with heap := h'.push { cls := .type "list", data := .seq vs.toArray }, toks := tk }) :
    wpAny (model prog w) A (call (.builtin "sorted") [.ref d]) Q E s := by
  refine call_function_entry kind_sorted plain_sorted entry_sorted (args_sorted1 _) ?_
  unfold Builtin.«sorted»
  refine wpAny_bind (m := checkCount "sorted" 1 1 _) (wpAny_pure ?_)
  refine wpAny_bind (PySem.W.kdu_collect (A := A.in1) (kdl_raw hs hx hdt) hh ho hn fun h' tk acc hk hacc => ?_)
  have hl : acc.toList.length = es.size := by rw [Array.length_toList]; exact hacc.1
  refine wpAny_bind (wpAny_newList ?_ (by rw [hl]; exact hn))
  have hg := h h' tk acc.toList hk hl (fun j v e => hacc.2 j v (by rw [← Array.getElem?_toList]; exact e))
  refine wpAny_bind (wpAny_holding (wpAny_mono hg (fun _ s' x => ?_) fun _ _ e => e))
  exact wpAny_pure ⟨_, rfl, x⟩
theorem reads_nil {h : Heap} : ∀ (n : Nat) (d : D) (v : Value) (as : List Addr), Okd n d → Reads h v d.toP as → as = []
  | n, .non, v, as, _, r => by rw [D.toP] at r; cases r; rfl
  | n, .bl _, v, as, _, r => by rw [D.toP] at r; cases r; rfl
  | n, .int _, v, as, _, r => by rw [D.toP] at r; cases r; rfl
  | n, .str _, v, as, _, r => by rw [D.toP] at r; cases r; rfl
  | 0, .tup _, _, _, o, _ => o.elim
  | n + 1, .tup l, v, as, o, r => by
    rw [D.toP, toPs_map] at r
    cases r with
    | tuple h1 h2 h3 h4 =>
      have go : ∀ (l : List D) (vs : List Value) (as : List Addr), (∀ d ∈ l, Okd n d) → ReadsAll h vs (l.map D.toP) as → as = [] := by
        intro l
        induction l with
        | nil => intro vs as _ r; rw [List.map_nil] at r; cases r; rfl
        | cons d r ih =>
          intro vs as ho hr
          rw [List.map_cons] at hr
          cases hr with
          | cons r1 r2 => rw [reads_nil n d _ _ (ho d List.mem_cons_self) r1, ih _ _ (fun e he => ho e (List.mem_cons_of_mem _ he)) r2]; rfl
      exact go l _ _ o h4
  | 0, .ref _, _, _, o, _ => o.elim
  | n + 1, .ref _, _, _, o, _ => o.elim
  | 0, .gl _, _, _, o, _ => o.elim
  | n + 1, .gl _, _, _, o, _ => o.elim
  | 0, .ty _, _, _, o, _ => o.elim
  | n + 1, .ty _, _, _, o, _ => o.elim
def SrtOk (l : List D) : Prop := (∀ d ∈ l, Okd 8 d) ∧ (∀ d ∈ l, ∀ e ∈ l, PySem.W.alike d.toP e.toP = true) ∧ ((∀ d ∈ l, ∃ x r, d = .tup (x :: r)) ∨ ∀ d ∈ l, d ≠ .non ∧ ∀ r, d ≠ .tup r)
theorem srtOk_able {l : List D} (h : SrtOk l) : PySem.W.AllAlike (l.map D.toP) ∧ PySem.W.Sortable (l.map D.toP) := by
  obtain ⟨ho, hal, hso⟩ := h
  refine ⟨?_, ?_⟩
  · intro d hd d' hd'
    obtain ⟨x, hx, rfl⟩ := List.mem_map.mp hd
    obtain ⟨y, hy, rfl⟩ := List.mem_map.mp hd'
    exact hal x hx y hy
  · rcases hso with hso | hso
    · refine .inl fun d hd => ?_
      obtain ⟨x, hx, rfl⟩ := List.mem_map.mp hd
      obtain ⟨y, r, rfl⟩ := hso x hx
      rw [D.toP, toPs]
      exact ⟨_, _, rfl⟩
    · refine .inr fun d hd => ?_
      obtain ⟨x, hx, rfl⟩ := List.mem_map.mp hd
      obtain ⟨n1, n2⟩ := hso x hx
      refine ⟨toP_ne n1, fun xs e => ?_⟩
      cases x <;> rw [D.toP] at e <;> first | cases e | skip
      exact n2 _ rfl
def rSortN (X : Cx) : List V → Hp → VK → Prop := fun vs H Q => ∃ (a : Addr) (G : Gp) (kvs : List (NestedKey × D × D)), vs = [.ref a] ∧ RG X.K X.m H G ∧ dnOf G a = some kvs ∧ SrtOk (kvs.map (·.2.1)) ∧ ∀ p ws, H p = none → Rvs X.K X.m H ((kvs.map (·.2.1)).mergeSort leD) ws → Q (.ref p) (upd H p (.lst ws))
theorem cr_sortN (hc : X.calm = true) (hu : X.A.units + 64 < cLine) : CallR X (.builtin "sorted") (rSortN X) := by
  intro pins s σ H vs us Q I r h
  obtain ⟨a, G, kvs, rfl, rg, e, so, q⟩ := h
  obtain ⟨u, rfl, rx⟩ := r.one
  cases rx
  obtain ⟨xs, h2, ⟨o, es, ep, ho, hx, hdt, he, _, _⟩, hs, z⟩ := dn_at I rg e
  have l1 : es.size = xs.length := size_of_entries he
  have l2 : kvs.length = xs.length := Paired.length h2
  refine sortD_heap hs ho hx hdt (I.ok.hd hc) (by omega) fun h' tk vs kp hl hv => ?_
  have ea : vs = xs.map fun x => Value.ref x.2.1 := by
    apply List.ext_getElem?
    intro j
    rw [List.getElem?_map]
    cases hj : vs[j]? with
    | none =>
      have h1 := List.getElem?_eq_none_iff.mp hj
      rw [List.getElem?_eq_none (by omega)]
      all_goals rfl
    | some v =>
      obtain ⟨en, hen, hv⟩ := hv j v hj
      have qe := entry_at he j
      rw [hen] at qe
      cases hb : xs[j]? with
      | none =>
        rw [hb] at qe
        exact nomatch (show some en = none from qe)
      | some b =>
        rw [hb] at qe
        have e2 : en = entryOfKey (nestedKind X.prog X.w) b := Option.some.inj qe
        rw [hv, e2]
        all_goals rfl
  have rv : Vals (xs.map fun x => V.ref x.2.1) vs := by
    rw [ea]
    exact vals_maps _ _ xs fun z _ => rfl
  have kp2 : ∀ b ob, s.heap.get? b = some ob → (h'.push { cls := .type "list", data := .seq vs.toArray }).get? b = some ob := fun b ob e => Heap.get?_push_of_some _ (kp b ob e)
  have hr := rn_keys h2
  have each := each_of hr rv
  obtain ⟨hal, hk⟩ := srtOk_able so
  have er : PySem.W.EachIs (fun (v : Value) (b : D) => ∃ as, Reads (h'.push { cls := .type "list", data := .seq vs.toArray }) v b.toP as ∧ h'.objs.size ∉ as) vs (kvs.map (·.2.1)) := by
    have e0 := each_reads I so.1 each
    have mem : ∀ {ws : List Value} {l : List D}, (∀ d ∈ l, Okd 8 d) → PySem.W.EachIs (fun (u : Value) (d : D) => ∃ as, Reads s.heap u d.toP as) ws l → PySem.W.EachIs (fun (v : Value) (b : D) => ∃ as, Reads (h'.push { cls := .type "list", data := .seq vs.toArray }) v b.toP as ∧ h'.objs.size ∉ as) ws l := by
      intro vs' l ho e
      induction e with
      | nil => exact .nil
      | @cons v d vs2 l2 h t ih =>
        obtain ⟨as, r⟩ := h
        refine .cons ⟨as, PyProof.Rows.Reads.keeps kp2 r, ?_⟩ (ih fun e he => ho e (List.mem_cons_of_mem _ he))
        rw [reads_nil 8 d _ _ (ho d List.mem_cons_self) r]
        simp
    exact mem so.1 e0
  refine PySem.W.list_sort_data (s := { s with heap := h'.push { cls := .type "list", data := .seq vs.toArray }, toks := tk }) (R := fun (u : Value) (d : D) => ∃ v, RelV v u ∧ Rv X.K X.m H d v) (enc := D.toP) (bs := kvs.map (·.2.1)) (n := 0) (Heap.get?_push_size _ rfl) each er hal hk (by rw [List.length_map]; exact z) (fun b hb => ?_) fun out h1 h3 => ?_
  · have := (okd_plain 8 b (so.1 b hb)).2
    show X.A.units + 1 + 1 + _ < _
    omega
  · rw [← le_eq] at h3
    obtain ⟨us, g1, g2⟩ := each_back h3
    have gone : s.heap.get? h'.objs.size = none := by
      cases z : s.heap.get? h'.objs.size with
      | none => rfl
      | some ob => exact absurd (Heap.lt_size (kp _ _ z)) (Nat.lt_irrefl _)
    have np : H h'.objs.size = none := I.hok.gone gone
    obtain ⟨e2, he2⟩ := PyProof.Rows.sortedHeap_at (h := h'.push { cls := .type "list", data := .seq vs.toArray }) (a := h'.objs.size) (vs := vs) (n := 0) (out := out.toArray) (Heap.get?_push_size _ rfl)
    refine ⟨.ref h'.objs.size, upd H h'.objs.size (.lst us), I.laidN (t' := tk) (fun b ob e => ?_) gone np ⟨?_, out, e2, g2, he2⟩, rfl, q _ _ np g1⟩
    · have lt := Heap.lt_size (kp2 _ _ e)
      have ne : b ≠ h'.objs.size := Nat.ne_of_lt (Heap.lt_size (kp _ _ e))
      exact (PyProof.Rows.sortedHeap_old ne lt).trans (kp2 _ _ e)
    · rw [← g1.length, List.length_mergeSort, List.length_map]
      exact z
def oSortN : OC := fun ds G Q => ∃ a kvs, ds = [.ref a] ∧ dnOf G a = some kvs ∧ SrtOk (kvs.map (·.2.1)) ∧ ∀ p, G p = none → Q (.ref p) (up G p (.lst ((kvs.map (·.2.1)).mergeSort leD)))
theorem oSortN_s : CaS X oSortN (rSortN X) := fun ds G Q vs H Qv ⟨a, kvs, e, hl, so, q⟩ r rg k => by
  subst e
  obtain ⟨v, rfl, rv⟩ := one_inv r
  rw [rv_ref_inv rv]
  exact ⟨a, G, kvs, rfl, rg, hl, so, fun p ws np rw' => k _ _ _ _ (q p (rg.fresh np)) rv_ref (new_lst rg np rw' (by rw [List.length_mergeSort, List.length_map]; exact dn_len rg hl)) (Fr.newS np)⟩
end
end DL
end
section
set_option Elab.async false
set_option linter.all false
set_option maxRecDepth 100000
set_option maxHeartbeats 4000000
/-! Walks over a locked dict with tuple keys. -/
namespace DL
open PySem PySem.Spec PyProof.Rows L2
section
variable {P : Program} {w : World} {K : PySem.W.Frag} {tg : Expr} {d : Addr} {o : Obj} {es : Array DictEntry} {ep : Nat} {xs : Nx}
abbrev Lk (P : Program) (w : World) (d : Addr) (o : Obj) (H : Hp) (xs : Nx) : Prop := H d = some (.frz o (NestO P w d xs))
def ItNk (P : Program) (w : World) (d : Addr) (o : Obj) (n : Nat) : It :=
  ⟨fun i H => (∃ xs, Lk P w d o H xs) ∧ i < n, fun i H x H' => H' = H ∧ ∃ xs y, Lk P w d o H xs ∧ xs[i]? = some y ∧ x = .ref y.2.1, fun i H => (∃ xs, Lk P w d o H xs) ∧ n ≤ i⟩
def ItNv (P : Program) (w : World) (d : Addr) (o : Obj) (n : Nat) : It :=
  ⟨fun i H => (∃ xs y v, Lk P w d o H xs ∧ xs[i]? = some y ∧ RelV v y.2.2) ∧ i < n, fun i H x H' => H' = H ∧ ∃ xs y, Lk P w d o H xs ∧ xs[i]? = some y ∧ RelV x y.2.2, fun i H => (∃ xs, Lk P w d o H xs) ∧ n ≤ i⟩
def ItNi (P : Program) (w : World) (d : Addr) (o : Obj) (n : Nat) : It :=
  ⟨fun i H => (∃ xs y v, Lk P w d o H xs ∧ xs[i]? = some y ∧ RelV v y.2.2) ∧ i < n, fun i H x H' => ∃ T xs y v, Lk P w d o H xs ∧ xs[i]? = some y ∧ RelV v y.2.2 ∧ x = .ref T ∧ H T = none ∧ H' = upd H T (.tup [.ref y.2.1, v]), fun i H => (∃ xs, Lk P w d o H xs) ∧ n ≤ i⟩
theorem frzN {X : Cx} {pins : List (Addr × Obj)} {σ : L2.St} {H : Hp} {s : Shared} (I : Inv X pins σ H s) (h : H d = some (.frz o (NestO X.prog X.w d xs))) : s.heap.get? d = some o ∧ ∃ (es : Array DictEntry) (ep : Nat), o.ExactDict ∧ o.data = .dict es ep ∧ es.size = xs.length ∧ (d == sysModules) = false ∧
    ∀ i (hi : i < es.size), ∃ y, xs[i]? = some y ∧ es[i].key = .ref y.2.1 ∧ es[i].val = y.2.2 := by
  have z := I.hok d _ h
  obtain ⟨o', es, ep, h1, h2, h3, h4, h5, h6⟩ := nest_raw z.2.1
  have : o' = o := by
    have e := z.1
    rw [h1] at e
    exact Option.some.inj e
  subst this
  exact ⟨h1, es, ep, h2, h3, h4, h5, h6⟩
theorem turn_keysN (it : Addr) (hod : o.data = .dict es ep) : Turn P w K tg (ItNk P w d o es.size) [it] it (fun i h => h.IsKeyIter it d i es.size ep) where
  mem := by simp
  obj := fun i h st b hb => by
    have e : b = it := by simpa using hb
    subst e
    obtain ⟨oi, e, c, dd⟩ := st
    exact ⟨oi, e, fun v z => by rw [dd] at z; cases z⟩
  keep := fun i h h' st k => st.at fun oi e => k it (by simp) oi e
  item := by
    intro X hP hw hK hc i pins s σ H E I hf st hg
    subst hP hw hK
    obtain ⟨⟨xs, hd⟩, hi⟩ := hg
    obtain ⟨f0, f1, f2, f3, f4, f5⟩ := hf it (by simp)
    obtain ⟨hgd, es', ep', hx, hdt, hsz, hs, ent⟩ := frzN I hd
    obtain ⟨rfl, rfl⟩ := dict_ep hod hdt
    have hlt : i < es'.size := by omega
    obtain ⟨y, hy, hk, hv⟩ := ent i hlt
    refine wpAny_pyNext_keys_item_raw st ⟨o, hgd, hx, hdt⟩ hlt fun h' st' sb => ?_
    have I1 : Inv X pins σ H { s with heap := h' } := I.turned (t' := s.toks) (fun b ob hb e => (sb.2 b hb).trans e) f0 f1 f3 f4 f5
    obtain ⟨oi, e, c, dd⟩ := id st'
    exact ⟨_, rfl, go_of (s := { s with heap := h' }) e c dd (by decide) ⟨.ref y.2.1, H, I1, by rw [hk]; rfl, ⟨rfl, xs, y, hd, hy, rfl⟩, st', fun b hb => (hf b hb).1⟩⟩
  done := by
    intro X hP hw hK hc i pins s σ H E I hf st hg
    subst hP hw hK
    obtain ⟨⟨xs, hd⟩, hi⟩ := hg
    obtain ⟨f0, f1, f2, f3, f4, f5⟩ := hf it (by simp)
    obtain ⟨hgd, es', ep', hx, hdt, hsz, hs, ent⟩ := frzN I hd
    obtain ⟨rfl, rfl⟩ := dict_ep hod hdt
    exact wpAny_pyNext_keys_end_raw (I.ok.hd hc) st ⟨o, hgd, hx, hdt⟩ (by omega) fun h' eb => ⟨rfl, I.turned (t' := s.toks) (fun b ob hb e => eb b ob hb e) f0 f1 f3 f4 f5⟩
  self := fun A i s Q E st h => by
    refine wpAny_pyIter_slot st.typeIs F.slot_dict_keyiterator_iter (wpAny_call_entry F.slot_dict_keyiterator_iter st.typeIs F.entry_dict_keyiterator_iter ?_ (F.args_dict_keyiterator_iter_1 _))
    show wpAny _ _ (ret (.ref it)) _ _ s
    exact wpAny_pure ⟨_, rfl, "dict_keyiterator", _, st.typeIs, F.slot_dict_keyiterator_next.lookup, h⟩
theorem turn_valsN (it : Addr) (hod : o.data = .dict es ep) : Turn P w K tg (ItNv P w d o es.size) [it] it (fun i h => h.IsValIter it d i es.size ep) where
  mem := by simp
  obj := fun i h st b hb => by
    have e : b = it := by simpa using hb
    subst e
    obtain ⟨oi, e, c, dd⟩ := st
    exact ⟨oi, e, fun v z => by rw [dd] at z; cases z⟩
  keep := fun i h h' st k => st.at fun oi e => k it (by simp) oi e
  item := by
    intro X hP hw hK hc i pins s σ H E I hf st hg
    subst hP hw hK
    obtain ⟨⟨xs, y0, v0, hd, hy0, rv0⟩, hi⟩ := hg
    obtain ⟨f0, f1, f2, f3, f4, f5⟩ := hf it (by simp)
    obtain ⟨hgd, es', ep', hx, hdt, hsz, hs, ent⟩ := frzN I hd
    obtain ⟨rfl, rfl⟩ := dict_ep hod hdt
    have hlt : i < es'.size := by omega
    obtain ⟨y, hy, hk, hv⟩ := ent i hlt
    rw [hy0] at hy
    cases hy
    refine wpAny_pyNext_values_item_raw st ⟨o, hgd, hx, hdt⟩ hlt fun h' st' sb => ?_
    have I1 : Inv X pins σ H { s with heap := h' } := I.turned (t' := s.toks) (fun b ob hb e => (sb.2 b hb).trans e) f0 f1 f3 f4 f5
    obtain ⟨oi, e, c, dd⟩ := id st'
    exact ⟨_, rfl, go_of (s := { s with heap := h' }) e c dd (by decide) ⟨v0, H, I1, by rw [hv]; exact rv0, ⟨rfl, xs, y0, hd, hy0, rv0⟩, st', fun b hb => (hf b hb).1⟩⟩
  done := by
    intro X hP hw hK hc i pins s σ H E I hf st hg
    subst hP hw hK
    obtain ⟨⟨xs, hd⟩, hi⟩ := hg
    obtain ⟨f0, f1, f2, f3, f4, f5⟩ := hf it (by simp)
    obtain ⟨hgd, es', ep', hx, hdt, hsz, hs, ent⟩ := frzN I hd
    obtain ⟨rfl, rfl⟩ := dict_ep hod hdt
    exact wpAny_pyNext_values_end_raw (I.ok.hd hc) st ⟨o, hgd, hx, hdt⟩ (by omega) fun h' eb => ⟨rfl, I.turned (t' := s.toks) (fun b ob hb e => eb b ob hb e) f0 f1 f3 f4 f5⟩
  self := fun A i s Q E st h => wpAny_pyIter_valiter st h
theorem turn_itemsN {elts : List Expr} {kk : Nat} {tpos : Pos} (it : Addr) (hod : o.data = .dict es ep) :
    Turn P w K (.Tuple elts kk tpos) (ItNi P w d o es.size) [it] it (fun i h => ∃ ok ov, IsItemIter h it d i es.size ep ok ov) where
  mem := by simp
  obj := fun i h st b hb => by
    have e : b = it := by simpa using hb
    subst e
    obtain ⟨ok, ov, e⟩ := st
    exact ⟨_, e, fun v z => nomatch z⟩
  keep := fun i h h' st k => let ⟨ok, ov, e⟩ := st; ⟨ok, ov, k it (by simp) _ e⟩
  item := by
    intro X hP hw hK hc i pins s σ H E I hf st hg
    subst hP hw hK
    obtain ⟨⟨xs, y0, v0, hd, hy0, rv0⟩, hi⟩ := hg
    obtain ⟨hgd, es', ep', hx, hdt, hsz, hs, ent⟩ := frzN I hd
    obtain ⟨rfl, rfl⟩ := dict_ep hod hdt
    have hlt' : i < es'.size := by omega
    obtain ⟨y, hy, hk, hv⟩ := ent i hlt'
    rw [hy0] at hy
    cases hy
    obtain ⟨ok, ov, he⟩ := st
    have hlt : it < s.heap.objs.size := Heap.lt_size he
    refine wpAny_pyNext_items_item_raw he ⟨o, hgd, hx, hdt⟩ hlt' fun h' ho hT hz hkp => ?_
    rw [hk, hv] at ho hT
    refine ⟨_, rfl, wpAny_letOwnedTupleGo_items (s := { s with heap := h' }) ho fun h'' he' sb => ?_⟩
    have hT2 : h''.get? s.heap.objs.size = some { cls := .type "tuple", data := .seq #[.ref y0.2.1, y0.2.2] } := (sb.2 _ (Nat.ne_of_gt hlt)).trans hT
    have new : ObjOk X.prog X.w (upd H s.heap.objs.size (.tup [.ref y0.2.1, v0])) h'' s.heap.objs.size (.tup [.ref y0.2.1, v0]) :=
      ⟨by show 2 ≤ sizeLine; decide, [.ref y0.2.1, y0.2.2], .cons rfl (.cons rv0 .nil), ⟨_, hT2, rfl, _, rfl⟩⟩
    have I1 : Inv X pins σ (upd H s.heap.objs.size (.tup [.ref y0.2.1, v0])) { s with heap := h'' } :=
      I.turnedNew (t' := s.toks) (ch := [it]) (fun b ob hb e => (sb.2 b (by simpa using hb)).trans (hkp b ob (by simpa using hb) e)) hf (Nat.le_refl _) new
    refine ⟨.ref s.heap.objs.size, _, I1, rfl, ⟨_, xs, y0, v0, hd, hy0, rv0, rfl, I.hok.fresh (Nat.le_refl _), rfl⟩, ⟨_, _, he'⟩, fun b hb => ?_⟩
    have e : b = it := by simpa using hb
    rw [e, upd_ne (Nat.ne_of_lt hlt)]
    exact (hf it (by simp)).1
  done := by
    intro X hP hw hK hc i pins s σ H E I hf st hg
    subst hP hw hK
    obtain ⟨⟨xs, hd⟩, hi⟩ := hg
    obtain ⟨f0, f1, f2, f3, f4, f5⟩ := hf it (by simp)
    obtain ⟨hgd, es', ep', hx, hdt, hsz, hs, ent⟩ := frzN I hd
    obtain ⟨rfl, rfl⟩ := dict_ep hod hdt
    obtain ⟨ok, ov, he⟩ := st
    exact wpAny_pyNext_items_end_raw (I.ok.hd hc) he ⟨o, hgd, hx, hdt⟩ (by omega) fun h' eb => ⟨rfl, I.turned (t' := s.toks) (fun b ob hb e => eb b ob hb e) f0 f1 f3 f4 f5⟩
  self := fun A i s Q E st h => let ⟨_, _, e⟩ := st; PySem.W.kcp_self e h
end
end DL
end
section
set_option Elab.async false
set_option linter.all false
set_option maxRecDepth 100000
set_option maxHeartbeats 4000000
/-! Walks over a dict with tuple keys, data. -/
namespace DL
open PySem PySem.Spec PyProof.Rows L2
theorem nest_same {P : Program} {w : World} {a : Addr} {xs ys : Nx} (e : NestO P w a xs = NestO P w a ys) (f : ∃ h, NestF P w a ys h) : xs.length = ys.length ∧ ∀ (i : Nat) (y : NestedKey × Addr × Value), xs[i]? = some y → ∃ z, ys[i]? = some z ∧ z.2 = y.2 := by
  unfold NestO at e
  have e1 := HO.ext.inj e
  obtain ⟨h, hy⟩ := f
  have hx : NestF P w a xs h := by rw [congrFun e1 h]; exact hy
  obtain ⟨o, es, ep, a1, a2, a3, a4, a5⟩ := hx
  obtain ⟨o', es', ep', b1, b2, b3, b4, b5⟩ := hy
  rw [a1] at b1
  cases b1
  rw [a3] at b3
  cases b3
  have em : xs.map (entryOfKey (nestedKind P w)) = ys.map (entryOfKey (nestedKind P w)) := a4.symm.trans b4
  refine ⟨by have := congrArg List.length em; simpa using this, fun i y hi => ?_⟩
  have q : (xs.map (entryOfKey (nestedKind P w)))[i]? = some (entryOfKey (nestedKind P w) y) := by rw [List.getElem?_map, hi]; rfl
  rw [em, List.getElem?_map] at q
  cases z : ys[i]? with
  | none => rw [z] at q; cases q
  | some t =>
    rw [z] at q
    have q' : entryOfKey (nestedKind P w) t = entryOfKey (nestedKind P w) y := Option.some.inj q
    refine ⟨t, rfl, ?_⟩
    have k1 := congrArg DictEntry.key q'
    have k2 := congrArg DictEntry.val q'
    have k1' : Value.ref t.2.1 = Value.ref y.2.1 := k1
    have k2' : t.2.2 = y.2.2 := k2
    exact Prod.ext (Value.ref.inj k1') k2'
section
variable {X : Cx}
abbrev stN (a : Addr) (u : Obj × Nx) (kvs : List (NestedKey × D × D)) : Gp → Prop := fun G => G a = some (.dnl u kvs)
theorem itd_keysN {a : Addr} {u : Obj × Nx} {kvs : List (NestedKey × D × D)} : ItD X (ItNk X.prog X.w a u.1 kvs.length) (kvs.map (·.2.1)) (stN a u kvs) (fun _ => True) where
  stop := fun i H G rg st _ hl => by
    obtain ⟨h1, _⟩ := rg a _ st
    exact ⟨⟨_, h1⟩, by simpa using hl⟩
  go := fun i H G d rg st _ hd => by
    obtain ⟨h1, _⟩ := rg a _ st
    exact ⟨⟨_, h1⟩, by have := (List.getElem?_eq_some_iff.mp hd).1; simpa using this⟩
  yld := fun i H G d x H' rg st _ hd hy => by
    obtain ⟨rfl, xs, y, hk, hy, rfl⟩ := hy
    obtain ⟨h1, h2, h3, _⟩ := rg a _ st
    have e : NestO X.prog X.w a xs = NestO X.prog X.w a u.2 := by
      have z := hk.symm.trans h1
      injection z with z
      injection z
    obtain ⟨z, hz, ez⟩ := (nest_same e h2).2 i y hy
    obtain ⟨p, hp, rn⟩ := rn_at h3 hz
    rw [List.getElem?_map, hp] at hd
    cases hd
    refine ⟨rg, Fr.refl _ _, ?_⟩
    rw [← ez]
    exact rn.2.2.2.1
  hk := fun _ _ _ _ _ _ _ => True.intro
theorem itd_valsN {a : Addr} {u : Obj × Nx} {kvs : List (NestedKey × D × D)} : ItD X (ItNv X.prog X.w a u.1 kvs.length) (kvs.map (·.2.2)) (stN a u kvs) (fun _ => True) where
  stop := fun i H G rg st _ hl => by
    obtain ⟨h1, _⟩ := rg a _ st
    exact ⟨⟨_, h1⟩, by simpa using hl⟩
  go := fun i H G d rg st _ hd => by
    obtain ⟨h1, h2, h3, _⟩ := rg a _ st
    rw [List.getElem?_map] at hd
    cases q : kvs[i]? with
    | none => rw [q] at hd; cases hd
    | some p =>
      obtain ⟨y, hy, rn⟩ := rn_at' h3 q
      obtain ⟨v, rv, _⟩ := rn.2.2.2.2
      exact ⟨⟨_, y, v, h1, hy, rv⟩, (List.getElem?_eq_some_iff.mp q).1⟩
  yld := fun i H G d x H' rg st _ hd hy => by
    obtain ⟨rfl, xs, y, hk, hy, rx⟩ := hy
    obtain ⟨h1, h2, h3, _⟩ := rg a _ st
    have e : NestO X.prog X.w a xs = NestO X.prog X.w a u.2 := by
      have z := hk.symm.trans h1
      injection z with z
      injection z
    obtain ⟨z, hz, ez⟩ := (nest_same e h2).2 i y hy
    obtain ⟨p, hp, rn⟩ := rn_at h3 hz
    rw [List.getElem?_map, hp] at hd
    cases hd
    obtain ⟨v, rv, r⟩ := rn.2.2.2.2
    rw [ez] at rv
    rw [RelV.inj rx rv]
    exact ⟨rg, Fr.refl _ _, r⟩
  hk := fun _ _ _ _ _ _ _ => True.intro
theorem itd_itemsN {a : Addr} {u : Obj × Nx} {kvs : List (NestedKey × D × D)} : ItD X (ItNi X.prog X.w a u.1 kvs.length) (kvs.map fun p => .tup [p.2.1, p.2.2]) (stN a u kvs) (fun _ => True) where
  stop := fun i H G rg st _ hl => by
    obtain ⟨h1, _⟩ := rg a _ st
    exact ⟨⟨_, h1⟩, by simpa using hl⟩
  go := fun i H G d rg st _ hd => by
    obtain ⟨h1, h2, h3, _⟩ := rg a _ st
    rw [List.getElem?_map] at hd
    cases q : kvs[i]? with
    | none => rw [q] at hd; cases hd
    | some p =>
      obtain ⟨y, hy, rn⟩ := rn_at' h3 q
      obtain ⟨v, rv, _⟩ := rn.2.2.2.2
      exact ⟨⟨_, y, v, h1, hy, rv⟩, (List.getElem?_eq_some_iff.mp q).1⟩
  yld := fun i H G d x H' rg st _ hd hy => by
    obtain ⟨T, xs, y, w', hk, hy, rw', rfl, nT, rfl⟩ := hy
    obtain ⟨h1, h2, h3, _⟩ := rg a _ st
    have e : NestO X.prog X.w a xs = NestO X.prog X.w a u.2 := by
      have z := hk.symm.trans h1
      injection z with z
      injection z
    obtain ⟨z, hz, ez⟩ := (nest_same e h2).2 i y hy
    obtain ⟨p, hp, rn⟩ := rn_at h3 hz
    rw [List.getElem?_map, hp] at hd
    cases hd
    obtain ⟨v, rv, r⟩ := rn.2.2.2.2
    rw [ez] at rv
    rw [RelV.inj rw' rv]
    have tk := keep_new (K := X.K) (o := .tup [.ref y.2.1, v]) nT
    refine ⟨rg.new nT, Fr.new nT, rv_tup (.inl (.inl upd_same)) (rvs_cons ?_ (rvs_cons (r.mono tk) rvs_nil)) (by show 2 ≤ sizeLine; rw [sizeLine_eq]; omega)⟩
    have := rn.2.2.2.1.mono tk
    rw [ez] at this
    exact this
  hk := fun _ _ _ _ _ _ _ => True.intro
/-! what is walked -/
def iNk (X : Cx) (td : TE) : TI := fun σ H R => td σ H fun x H1 => ∃ d o xs, x = .ref d ∧ Lk X.prog X.w d o H1 xs ∧ R (ItNk X.prog X.w d o xs.length) H1
theorem pi_keysN {tg e : Expr} {td : TE} (he : PE X e td) : PI X tg e (iNk X td) := by
  refine ⟨fun pins s σ H R I h => ?_⟩
  refine thn (he.run pins s σ H _ I h) fun u s1 ⟨x, H1, I1, rx, d, o, xs, ex, hd, q⟩ => ?_
  subst ex
  obtain rfl : u = Value.ref d := rx
  obtain ⟨hgd, es, ep, hx, hdt, hsz, hs, ent⟩ := frzN I1 hd
  rw [← hsz] at q
  exact iter_keys hs hgd hx hdt (pi_one (tk := s1.toks) I1 _ (turn_keysN _ hdt) ⟨_, Heap.get?_push_size _ rfl, rfl, rfl⟩ q)
def dKeysN (te : TD) : TDI := fun env G R => te env G fun x G1 => ∃ a u kvs, x = .ref a ∧ G1 a = some (.dnl u kvs) ∧ R (kvs.map (·.2.1)) (stN a u kvs) G1
theorem dnl_len {H : Hp} {G : Gp} {a : Addr} {u : Obj × Nx} {kvs : List (NestedKey × D × D)} (rg : RG X.K X.m H G) (e : G a = some (.dnl u kvs)) : kvs.length = u.2.length ∧ kvs.length ≤ sizeLine := by
  obtain ⟨h1, h2, h3, h4⟩ := rg a _ e
  exact ⟨Paired.length h3, h4⟩
theorem di_keysN {tg e : Expr} {te : TD} (he : DE X e te) : DI X tg e (dKeysN te) := PI.mono (pi_keysN he) fun σ H R ⟨env, G, Q, rs, rg, h, k⟩ =>
  ⟨env, G, _, rs, rg, h, fun x G1 v H1 ⟨a, u, kvs, ex, e1, q⟩ r rg1 f => by
    subst ex
    obtain ⟨h1, h2, h3, h4⟩ := rg1 a _ e1
    refine ⟨a, u.1, u.2, rv_ref_inv r, h1, ?_⟩
    rw [← Paired.length h3]
    exact k _ _ _ G1 _ H1 q itd_keysN True.intro rg1 f (by rw [List.length_map]; exact h4)⟩
theorem view_meets {P : Program} {w : World} {s : Shared} {d : Addr} {o : Obj} {es : Array DictEntry} {ep : Nat} (h : s.heap.get? d = some o) (hx : o.ExactDict) (hd : o.data = .dict es ep) : s.heap.DictRaw d es ep := ⟨o, h, hx, hd⟩
def iNv (X : Cx) (td : TE) : TI := fun σ H R => td σ H fun x H1 => ∃ d o xs, x = .ref d ∧ Lk X.prog X.w d o H1 xs ∧ R (ItNv X.prog X.w d o xs.length) H1
theorem pi_valsN {tg e : Expr} {td : TE} {apos cpos : Pos} (he : PE X e td) (hbase : attributeBase e "values" X.env (eval e X.env) = eval e X.env := by rfl) (hline : (apos.endLine == cpos.line) = true := by rfl) : PI X tg (.Call (.Attribute e "values" apos) [] [] cpos) (iNv X td) := by
  refine ⟨fun pins s σ H R I h => ?_⟩
  refine wpAny_Call_method (T := "dict") (id := "dict.values") hbase rfl hline F.plainAttrs_dict F.slot_dict_values F.type_dict_values (thn (he.run pins s σ H _ I h) fun u s1 ⟨x, H1, I1, rx, d, o, xs, ex, hd, q⟩ => ?_)
  subst ex
  obtain rfl : u = Value.ref d := rx
  obtain ⟨hgd, es, ep, hx, hdt, hsz, hs, ent⟩ := frzN I1 hd
  have raw : s1.heap.DictRaw d es ep := ⟨o, hgd, hx, hdt⟩
  refine ⟨raw.typeIs, (fun b z => by cases z; exact ⟨o, hgd, hx.2.1⟩), ?_⟩
  have I2 : Inv X pins σ H1 { s1 with heap := s1.heap.push { cls := .type "dict_values", data := .fields #[.ref d] } } := I1.kept (t' := s1.toks) fun b ob q => Heap.get?_push_of_some _ q
  rw [← hsz] at q
  have fin : wpAny (model X.prog X.w) X.A (pyIter (.ref s1.heap.objs.size)) (PIE X pins σ tg R) X.xe { s1 with heap := s1.heap.push { cls := .type "dict_values", data := .fields #[.ref d] } } :=
    wpAny_pyIter_values_raw (d := d) ⟨_, Heap.get?_push_size _ rfl, rfl, rfl⟩ (raw.push _) (pi_one (tk := s1.toks) I2 _ (turn_valsN _ hdt) ⟨_, Heap.get?_push_size _ rfl, rfl, rfl⟩ q)
  show wpAny _ _ (callWith cpos (.builtin "dict.values") [.ref d] [] []) _ X.xe s1
  exact method_meetsIn F.slot_dict_values F.entry_dict_values rfl (PySem.evalArgs_none ⟨rfl, raw.typeIs, F.args_dict_values_1 _, _, meets_dict_values_raw d hs, ⟨_, _, raw⟩, fin⟩)
def dValsN (te : TD) : TDI := fun env G R => te env G fun x G1 => ∃ a u kvs, x = .ref a ∧ G1 a = some (.dnl u kvs) ∧ R (kvs.map (·.2.2)) (stN a u kvs) G1
theorem di_valsN {tg e : Expr} {te : TD} {apos cpos : Pos} (he : DE X e te) (hbase : attributeBase e "values" X.env (eval e X.env) = eval e X.env := by rfl) (hline : (apos.endLine == cpos.line) = true := by rfl) : DI X tg (.Call (.Attribute e "values" apos) [] [] cpos) (dValsN te) := PI.mono (pi_valsN he hbase hline) fun σ H R ⟨env, G, Q, rs, rg, h, k⟩ =>
  ⟨env, G, _, rs, rg, h, fun x G1 v H1 ⟨a, u, kvs, ex, e1, q⟩ r rg1 f => by
    subst ex
    obtain ⟨h1, h2, h3, h4⟩ := rg1 a _ e1
    refine ⟨a, u.1, u.2, rv_ref_inv r, h1, ?_⟩
    rw [← Paired.length h3]
    exact k _ _ _ G1 _ H1 q itd_valsN True.intro rg1 f (by rw [List.length_map]; exact h4)⟩
def iNi (X : Cx) (td : TE) : TI := fun σ H R => td σ H fun x H1 => ∃ d o xs, x = .ref d ∧ Lk X.prog X.w d o H1 xs ∧ R (ItNi X.prog X.w d o xs.length) H1
theorem pi_itemsN {elts : List Expr} {kk : Nat} {tpos : Pos} {e : Expr} {td : TE} {apos cpos : Pos} (he : PE X e td) (hbase : attributeBase e "items" X.env (eval e X.env) = eval e X.env := by rfl) (hline : (apos.endLine == cpos.line) = true := by rfl) :
    PI X (.Tuple elts kk tpos) (.Call (.Attribute e "items" apos) [] [] cpos) (iNi X td) := by
  refine ⟨fun pins s σ H R I h => ?_⟩
  refine wpAny_Call_method (T := "dict") (id := "dict.items") hbase rfl hline F.plainAttrs_dict F.slot_dict_items F.type_dict_items (thn (he.run pins s σ H _ I h) fun u s1 ⟨x, H1, I1, rx, d, o, xs, ex, hd, q⟩ => ?_)
  subst ex
  obtain rfl : u = Value.ref d := rx
  obtain ⟨hgd, es, ep, hx, hdt, hsz, hs, ent⟩ := frzN I1 hd
  have raw : s1.heap.DictRaw d es ep := ⟨o, hgd, hx, hdt⟩
  refine ⟨raw.typeIs, (fun b z => by cases z; exact ⟨o, hgd, hx.2.1⟩), ?_⟩
  have I2 : Inv X pins σ H1 { s1 with heap := s1.heap.push { cls := .type "dict_items", data := .fields #[.ref d] } } := I1.kept (t' := s1.toks) fun b ob q => Heap.get?_push_of_some _ q
  rw [← hsz] at q
  have fin : wpAny (model X.prog X.w) X.A (pyIter (.ref s1.heap.objs.size)) (PIE X pins σ (.Tuple elts kk tpos) R) X.xe { s1 with heap := s1.heap.push { cls := .type "dict_items", data := .fields #[.ref d] } } :=
    wpAny_pyIter_items_raw (d := d) ⟨_, Heap.get?_push_size _ rfl, rfl, rfl⟩ (raw.push _) (pi_one (tk := s1.toks) I2 _ (turn_itemsN _ hdt) ⟨.none, .none, Heap.get?_push_size _ rfl⟩ q)
  show wpAny _ _ (callWith cpos (.builtin "dict.items") [.ref d] [] []) _ X.xe s1
  exact method_meetsIn F.slot_dict_items F.entry_dict_items rfl (PySem.evalArgs_none ⟨rfl, raw.typeIs, F.args_dict_items_1 _, _, meets_dict_items_raw d hs, ⟨_, _, raw⟩, fin⟩)
def dItemsN (te : TD) : TDI := fun env G R => te env G fun x G1 => ∃ a u kvs, x = .ref a ∧ G1 a = some (.dnl u kvs) ∧ R (kvs.map fun p => .tup [p.2.1, p.2.2]) (stN a u kvs) G1
theorem di_itemsN {elts : List Expr} {kk : Nat} {tpos : Pos} {e : Expr} {te : TD} {apos cpos : Pos} (he : DE X e te) (hbase : attributeBase e "items" X.env (eval e X.env) = eval e X.env := by rfl) (hline : (apos.endLine == cpos.line) = true := by rfl) : DI X (.Tuple elts kk tpos) (.Call (.Attribute e "items" apos) [] [] cpos) (dItemsN te) := PI.mono (pi_itemsN he hbase hline) fun σ H R ⟨env, G, Q, rs, rg, h, k⟩ =>
  ⟨env, G, _, rs, rg, h, fun x G1 v H1 ⟨a, u, kvs, ex, e1, q⟩ r rg1 f => by
    subst ex
    obtain ⟨h1, h2, h3, h4⟩ := rg1 a _ e1
    refine ⟨a, u.1, u.2, rv_ref_inv r, h1, ?_⟩
    rw [← Paired.length h3]
    exact k _ _ _ G1 _ H1 q itd_itemsN True.intro rg1 f (by rw [List.length_map]; exact h4)⟩
/-! ### locked while it runs -/
def dLockS (t : TDS) : TDS := fun DD env G => ∃ a kvs, G a = some (.dn kvs) ∧ ∀ u, t { nx := fun e g => g a = some (.dnl u kvs) ∧ DD.nx e (up g a (.dn kvs)), rt := fun d g => g a = some (.dnl u kvs) ∧ DD.rt d (up g a (.dn kvs)), bk := fun e g => g a = some (.dnl u kvs) ∧ DD.bk e (up g a (.dn kvs)), ct := fun e g => g a = some (.dnl u kvs) ∧ DD.ct e (up g a (.dn kvs)) } env (up G a (.dnl u kvs))
def dLockE (te : TD) : TD := fun env G Q => ∃ a kvs, G a = some (.dn kvs) ∧ ∀ u, te env (up G a (.dnl u kvs)) fun d g => g a = some (.dnl u kvs) ∧ Q d (up g a (.dn kvs))
theorem lock_in {H : Hp} {G : Gp} {a : Addr} {kvs : List (NestedKey × D × D)} {od : Obj} {xs : Nx} (rg : RG X.K X.m H G) (e : G a = some (.dn kvs)) (h1 : H a = some (NestO X.prog X.w a xs)) (h2 : ∃ h, NestF X.prog X.w a xs h) (h3 : Paired (RN X.K X.m H) kvs xs) (h4 : kvs.length ≤ sizeLine) :
    RG X.K X.m (upd H a (.frz od (NestO X.prog X.w a xs))) (up G a (.dnl (od, xs) kvs)) := rg.put e ⟨upd_same, h2, Paired.mapP h3 fun _ _ z => z.mono (keep_put rg e), h4⟩
theorem lock_out {H' : Hp} {g : Gp} {a : Addr} {kvs : List (NestedKey × D × D)} {u : Obj × Nx} (rg : RG X.K X.m H' g) (e : g a = some (.dnl u kvs)) : H' a = some (.frz u.1 (NestO X.prog X.w a u.2)) ∧ RG X.K X.m (upd H' a (NestO X.prog X.w a u.2)) (up g a (.dn kvs)) := by
  obtain ⟨h1, h2, h3, h4⟩ := rg a _ e
  exact ⟨h1, rg.put e ⟨u.2, upd_same, h2, Paired.mapP h3 fun _ _ z => z.mono (keep_put rg e), h4⟩⟩
theorem lock_fr {H H' : Hp} {G g : Gp} {a : Addr} {o o' : HO} {d d' u : DO} (e : G a = some d) (f : Fr (up G a d') g (upd H a o) H') : Fr G (up g a u) H (upd H' a o') := ⟨fun b x hb gb n => by
  have ne : b ≠ a := fun z => by subst z; rw [e] at gb; cases gb
  obtain ⟨q1, q2⟩ := f.st b x (by rw [upd_ne ne]; exact hb) (by rw [up_ne ne]; exact gb) n
  exact ⟨by rw [upd_ne ne]; exact q1, by rw [up_ne ne]; exact q2⟩⟩
theorem ds_lock {st : Stmt} {t : TDS} (h : DS X st t) : DS X st (dLockS t) :=
  ds_of (ps_lock h) fun D σ H env G DD rs rg ⟨a, kvs, e, q⟩ k => by
    obtain ⟨xs, h1, h2, h3, h4⟩ := rg a _ e
    refine ⟨a, _, h1, nest_mut, fun od => ⟨env, up G a (.dnl (od, xs) kvs), _, rs.mono (keep_put rg e), lock_in rg e h1 h2 h3 h4, q (od, xs), ?_⟩⟩
    refine ⟨fun env' G' σ' H' ⟨e', q'⟩ rs' rg' f => ?_, fun d G' v H' ⟨e', q'⟩ r rg' f => ?_, fun env' G' σ' H' ⟨e', q'⟩ rs' rg' f => ?_, fun env' G' σ' H' ⟨e', q'⟩ rs' rg' f => ?_, fun _ _ _ _ _ _ z => z.elim⟩
    · obtain ⟨l1, l2⟩ := lock_out rg' e'
      exact ⟨l1, k.nx _ _ _ _ q' (rs'.mono (keep_put rg' e')) l2 (lock_fr e f)⟩
    · obtain ⟨l1, l2⟩ := lock_out rg' e'
      exact ⟨l1, k.rt _ _ _ _ q' (r.mono (keep_put rg' e')) l2 (lock_fr e f)⟩
    · obtain ⟨l1, l2⟩ := lock_out rg' e'
      exact ⟨l1, k.bk _ _ _ _ q' (rs'.mono (keep_put rg' e')) l2 (lock_fr e f)⟩
    · obtain ⟨l1, l2⟩ := lock_out rg' e'
      exact ⟨l1, k.ct _ _ _ _ q' (rs'.mono (keep_put rg' e')) l2 (lock_fr e f)⟩
theorem de_lock {ex : Expr} {t : TD} (h : DE X ex t) : DE X ex (dLockE t) :=
  de_of (pe_lock h) fun σ H env G Q Qv rs rg ⟨a, kvs, e, q⟩ k => by
    obtain ⟨xs, h1, h2, h3, h4⟩ := rg a _ e
    refine ⟨a, _, h1, nest_mut, fun od => ⟨env, up G a (.dnl (od, xs) kvs), _, rs.mono (keep_put rg e), lock_in rg e h1 h2 h3 h4, q (od, xs), fun d G' v H' ⟨e', q'⟩ r rg' f => ?_⟩⟩
    obtain ⟨l1, l2⟩ := lock_out rg' e'
    exact ⟨l1, k _ _ _ _ q' (r.mono (keep_put rg' e')) l2 (lock_fr e f)⟩
end
end DL
end
section
set_option Elab.async false
set_option linter.all false
set_option maxRecDepth 100000
set_option maxHeartbeats 4000000
/-! Methods over data: append, extend, pop, remove, setdefault, get. -/
namespace DL
open PySem PySem.Spec PyProof.Rows L2
section
variable {X : Cx} {o e f : Expr} {es : List Expr} {to te tf : TD} {t : TDA} {apos cpos : Pos} {name : Str} {T id : String}
/-- o.m(..) of a thing of the store -/
abbrev OM := D → List D → Gp → DK → Prop
def MeS (X : Cx) (om : OM) (r : V → List V → Hp → VK → Prop) : Prop := ∀ x ds G Q v vs H Qv, om x ds G Q → Rv X.K X.m H x v → Rvs X.K X.m H ds vs → RG X.K X.m H G → Ko X G H Q Qv → r v vs H Qv
def dM (to : TD) (t : TDA) (om : OM) : TD := fun env G Q => to env G fun x G1 => (∃ a, x = .ref a ∧ (lstAt G1 a).isSome = true) ∧ t env G1 fun ds G2 => om x ds G2 Q
def dM0 (to : TD) (om : OM) : TD := fun env G Q => to env G fun x G1 => (∃ a, x = .ref a ∧ (lstAt G1 a).isSome = true) ∧ om x [] G1 Q
theorem ty_list {H : Hp} {G : Gp} {a : Addr} (rg : RG X.K X.m H G) (h : (lstAt G a).isSome = true) : tyV X.K "list" (.ref a) H := by
  obtain ⟨l, hl⟩ := Option.isSome_iff_exists.mp h
  obtain ⟨vs, h1, _⟩ := rg.lst hl
  exact .inl ⟨rfl, vs, h1⟩
theorem de_lm {om : OM} {r : V → List V → Hp → VK → Prop} (slot : Slot "list" name id) (hty : typeOf (.builtin id) = pure (.type "method_descriptor")) (hm : MtR X id r) (hs : MeS X om r) (ho : DE X o to) (ha : DA X (e :: es) t)
    (hbase : attributeBase o name X.env (eval o X.env) = eval o X.env := by rfl)
    (hfew : ((backTo cpos (starEach (e :: es) X.env)).all (fun x => !x.1) && (backToKw cpos (keywordEach [] X.env)).all (fun x => x.1.isSome)
      && decide ((e :: es).length + ([] : List Keyword).length + (if ([] : List Keyword).isEmpty then 0 else 1) < 30)) = true := by rfl)
    (hline : (apos.endLine == cpos.line) = true := by rfl) (hst : starEach (e :: es) X.env = (false, eval e X.env) :: starEach es X.env := by rfl) (hplain : (backTo cpos (starEach es X.env)).any (·.1) = false := by rfl) :
    DE X (.Call (.Attribute o name apos) (e :: es) [] cpos) (dM to t om) :=
  de_of (pe_bm PySem.F.plainAttrs_list slot hty hm ho ha hbase hfew hline hst hplain) fun σ H env G Q Qv rs rg h k => ⟨env, G, _, rs, rg, h, fun x G1 v H1 ⟨⟨a, ex, hl⟩, q⟩ r rg1 f => by
    subst ex
    rw [rv_ref_inv r]
    exact ⟨ty_list rg1 hl, env, G1, _, rs.mono (f.keep rg), rg1, q, fun ds G2 vs H2 q2 r2 rg2 f2 => hs _ ds G2 Q _ vs H2 Qv q2 rv_ref r2 rg2 (k.mono (f.trans f2))⟩⟩
theorem de_lm0 {om : OM} {r : V → List V → Hp → VK → Prop} (slot : Slot "list" name id) (hty : typeOf (.builtin id) = pure (.type "method_descriptor")) (hm : MtR X id r) (hs : MeS X om r) (ho : DE X o to)
    (hbase : attributeBase o name X.env (eval o X.env) = eval o X.env := by rfl) (hline : (apos.endLine == cpos.line) = true := by rfl) : DE X (.Call (.Attribute o name apos) [] [] cpos) (dM0 to om) :=
  de_of (pe_bm0 PySem.F.plainAttrs_list slot hty hm ho hbase hline) fun σ H env G Q Qv rs rg h k => ⟨env, G, _, rs, rg, h, fun x G1 v H1 ⟨⟨a, ex, hl⟩, q⟩ r rg1 f => by
    subst ex
    rw [rv_ref_inv r]
    exact ⟨ty_list rg1 hl, hs _ [] G1 Q _ [] H1 Qv q rv_ref rvs_nil rg1 (k.mono f)⟩⟩
def oAppend : OM := fun x ds G Q => ∃ a l y, x = .ref a ∧ ds = [y] ∧ G a = some (.lst l) ∧ l.length < sizeLine ∧ Q .non (up G a (.lst (l ++ [y])))
theorem oAppend_s : MeS X oAppend rAppend := fun x ds G Q v vs H Qv ⟨a, l, y, ex, ed, e, hz, q⟩ rx rd rg k => by
  subst ex ed
  obtain ⟨u, rfl, ru⟩ := one_inv rd
  obtain ⟨ws, h1, h2, h3⟩ := rg a _ e
  refine ⟨a, ws, u, rv_ref_inv rx, rfl, h1, by rw [← h2.length]; exact hz, ?_⟩
  have tk := keep_put (o := .lst (ws ++ [u])) rg e
  exact k _ _ _ _ q rv_non (rg.put e ⟨_, upd_same, (h2.mono tk).append (rvs_cons (ru.mono tk) rvs_nil), by rw [List.length_append]; exact hz⟩) (Fr.put e)
def oExtend : OM := fun x ds G Q => ∃ a b l m, x = .ref a ∧ ds = [.ref b] ∧ G a = some (.lst l) ∧ G b = some (.lst m) ∧ l.length + m.length ≤ sizeLine ∧ Q .non (up G a (.lst (l ++ m)))
theorem oExtend_s : MeS X oExtend rExtend := fun x ds G Q v vs H Qv ⟨a, b, l, m, ex, ed, e, eb, hz, q⟩ rx rd rg k => by
  subst ex ed
  obtain ⟨u, rfl, ru⟩ := one_inv rd
  obtain ⟨ws, h1, h2, h3⟩ := rg a _ e
  obtain ⟨zs, g1, g2, g3⟩ := rg b _ eb
  rw [rv_ref_inv ru]
  refine ⟨a, b, ws, zs, rv_ref_inv rx, rfl, h1, g1, by rw [← h2.length, ← g2.length]; exact hz, ?_⟩
  have tk := keep_put (o := .lst (ws ++ zs)) rg e
  exact k _ _ _ _ q rv_non (rg.put e ⟨_, upd_same, (h2.mono tk).append (g2.mono tk), by rw [List.length_append]; exact hz⟩) (Fr.put e)
def oPop : OM := fun x ds G Q => ∃ a l y, x = .ref a ∧ ds = [] ∧ G a = some (.lst (l ++ [y])) ∧ Q y (up G a (.lst l))
theorem rvs_snoc {K : PySem.W.Frag} {m : Mg} {H : Hp} : ∀ {l : List D} {y : D} {vs : List V}, Rvs K m H (l ++ [y]) vs → ∃ ws u, vs = ws ++ [u] ∧ Rvs K m H l ws ∧ Rv K m H y u
  | [], y, vs, r => by
    obtain ⟨v, ws, rfl, r1, r2⟩ := rvs_cons_inv r
    rw [rvs_nil_inv r2]
    exact ⟨[], v, rfl, rvs_nil, r1⟩
  | d :: l, y, vs, r => by
    obtain ⟨v, ws, rfl, r1, r2⟩ := rvs_cons_inv r
    obtain ⟨w2, u, rfl, r3, r4⟩ := rvs_snoc r2
    exact ⟨v :: w2, u, rfl, rvs_cons r1 r3, r4⟩
theorem oPop_s : MeS X oPop rPop := fun x ds G Q v vs H Qv ⟨a, l, y, ex, ed, e, q⟩ rx rd rg k => by
  subst ex ed
  obtain ⟨ws, h1, h2, h3⟩ := rg a _ e
  obtain ⟨w2, u, rfl, r1, r2⟩ := rvs_snoc h2
  have tk := keep_put (o := .lst w2) rg e
  refine ⟨a, _, u, rv_ref_inv rx, rvs_nil_inv rd, h1, by simp, ?_⟩
  rw [List.dropLast_concat]
  exact k _ _ _ _ q (r2.mono tk) (rg.put e ⟨_, upd_same, r1.mono tk, by rw [List.length_append] at h3; omega⟩) (Fr.put e)
def oPopAt : OM := fun x ds G Q => ∃ a l i j y, x = .ref a ∧ ds = [.int i] ∧ G a = some (.lst l) ∧ -(2 ^ 63) ≤ i ∧ i < 2 ^ 63 ∧ seqIndex? i l.length = some j ∧ l[j]? = some y ∧ Q y (up G a (.lst (l.eraseIdx j)))
theorem oPopAt_s : MeS X oPopAt rPopAt := fun x ds G Q v vs H Qv ⟨a, l, i, j, y, ex, ed, e, i1, i2, hj, hy, q⟩ rx rd rg k => by
  subst ex ed
  obtain ⟨u, rfl, ru⟩ := one_inv rd
  obtain ⟨ws, h1, h2, h3⟩ := rg a _ e
  obtain ⟨w, hw, rw'⟩ := h2.get hy
  rw [rv_int_inv ru]
  have tk := keep_put (o := .lst (ws.eraseIdx j)) rg e
  refine ⟨a, ws, i, j, w, rv_ref_inv rx, rfl, h1, i1, i2, by rw [← h2.length]; exact hj, hw, ?_⟩
  refine k _ _ _ _ q (rw'.mono tk) (rg.put e ⟨_, upd_same, (h2.eraseIdx j).mono tk, ?_⟩) (Fr.put e)
  have := List.length_eraseIdx_le l j
  omega
theorem de_append (ho : DE X o to) (ha : DE X e te) (hbase : attributeBase o "append" X.env (eval o X.env) = eval o X.env := by rfl)
    (hfew : ((backTo cpos (starEach [e] X.env)).all (fun x => !x.1) && (backToKw cpos (keywordEach [] X.env)).all (fun x => x.1.isSome)
      && decide (([e] : List Expr).length + ([] : List Keyword).length + (if ([] : List Keyword).isEmpty then 0 else 1) < 30)) = true := by rfl)
    (hline : (apos.endLine == cpos.line) = true := by rfl) (hst : starEach [e] X.env = (false, eval e X.env) :: starEach [] X.env := by rfl) : DE X (.Call (.Attribute o "append" apos) [e] [] cpos) (dM to (dCons te dNil) oAppend) :=
  de_lm F.slot_list_append F.type_list_append mt_append oAppend_s ho (da_cons ha da_nil hst) hbase hfew hline hst rfl
theorem de_extend (ho : DE X o to) (ha : DE X e te) (hbase : attributeBase o "extend" X.env (eval o X.env) = eval o X.env := by rfl)
    (hfew : ((backTo cpos (starEach [e] X.env)).all (fun x => !x.1) && (backToKw cpos (keywordEach [] X.env)).all (fun x => x.1.isSome)
      && decide (([e] : List Expr).length + ([] : List Keyword).length + (if ([] : List Keyword).isEmpty then 0 else 1) < 30)) = true := by rfl)
    (hline : (apos.endLine == cpos.line) = true := by rfl) (hst : starEach [e] X.env = (false, eval e X.env) :: starEach [] X.env := by rfl) : DE X (.Call (.Attribute o "extend" apos) [e] [] cpos) (dM to (dCons te dNil) oExtend) :=
  de_lm F.slot_list_extend F.type_list_extend mt_extend oExtend_s ho (da_cons ha da_nil hst) hbase hfew hline hst rfl
theorem de_pop (ho : DE X o to) (hbase : attributeBase o "pop" X.env (eval o X.env) = eval o X.env := by rfl) (hline : (apos.endLine == cpos.line) = true := by rfl) : DE X (.Call (.Attribute o "pop" apos) [] [] cpos) (dM0 to oPop) :=
  de_lm0 F.slot_list_pop F.type_list_pop mt_pop oPop_s ho hbase hline
theorem de_popAt (ho : DE X o to) (ha : DE X e te) (hbase : attributeBase o "pop" X.env (eval o X.env) = eval o X.env := by rfl)
    (hfew : ((backTo cpos (starEach [e] X.env)).all (fun x => !x.1) && (backToKw cpos (keywordEach [] X.env)).all (fun x => x.1.isSome)
      && decide (([e] : List Expr).length + ([] : List Keyword).length + (if ([] : List Keyword).isEmpty then 0 else 1) < 30)) = true := by rfl)
    (hline : (apos.endLine == cpos.line) = true := by rfl) (hst : starEach [e] X.env = (false, eval e X.env) :: starEach [] X.env := by rfl) : DE X (.Call (.Attribute o "pop" apos) [e] [] cpos) (dM to (dCons te dNil) oPopAt) :=
  de_lm F.slot_list_pop F.type_list_pop mt_popAt oPopAt_s ho (da_cons ha da_nil hst) hbase hfew hline hst rfl
end
end DL
end
section
set_option Elab.async false
set_option linter.all false
set_option maxRecDepth 100000
set_option maxHeartbeats 4000000
/-! xs.remove(x), d.setdefault(k, v), d != {}. -/
namespace PySem.W
open PySem PySem.Spec PyProof.Rows
section
variable {prog : Program} {w : World} {A : Around} {E : Value → Shared → Prop} {s : Shared}
theorem samePairs0 {nm : String} {a b : Addr} {es : Array DictEntry} {ep ep' : Nat} {Q : Bool → Shared → Prop} (ha : (a == sysModules) = false) (hb : (b == sysModules) = false)
    (da : s.heap.DictRaw a es ep) (db : s.heap.DictRaw b #[] ep') (h : Q (es.size == 0) s) : wpAny (model prog w) A (Builtin.Dict.samePairs nm a b) Q E s := by
  obtain ⟨oa, hoa, _, hda⟩ := da
  obtain ⟨ob, hob, _, hdb⟩ := db
  unfold Builtin.Dict.samePairs Builtin.Dict.showsAll
  rw [if_neg (show ¬ (a == sysModules) = true by rw [ha]; exact Bool.false_ne_true), if_neg (show ¬ (b == sysModules) = true by rw [hb]; exact Bool.false_ne_true)]
  refine wpAny_bind (wpAny_pure (wpAny_bind (wpAny_pure ?_)))
  refine wpAny_bind (wpAny_dictEntries hoa hda ?_)
  dsimp only
  refine wpAny_bind (wpAny_dictEntries hob hdb ?_)
  by_cases hsz : es.size = (#[] : Array DictEntry).size
  case neg =>
    rw [if_pos (by simpa using hsz)]
    have hbf : (es.size == 0) = false := by simpa using hsz
    rw [hbf] at h
    exact wpAny_bind (wpAny_rule (wpAny_pure h))
  case pos =>
    have e0 : es.size = 0 := hsz
    have h' : Q true s := by simpa [e0] using h
    rw [if_neg (by rw [hsz]; simp)]
    refine wpAny_bind (wpAny_dictEpoch hoa hda ?_)
    refine wpAny_bind ?_
    rw [Std.Legacy.Range.forIn_eq_forIn_range']
    simp only [Std.Legacy.Range.size, Nat.sub_zero, Nat.add_sub_cancel, Nat.div_one]
    rw [e0]
    first
      | exact wpAny_pure h'
      | exact wpAny_pure (wpAny_pure h')
theorem ne0_dict {a b : Addr} {es : Array DictEntry} {ep ep' : Nat} {Q : Value → Shared → Prop} (ha : (a == sysModules) = false) (hb : (b == sysModules) = false)
    (da : s.heap.DictRaw a es ep) (db : s.heap.DictRaw b #[] ep') (hu : A.units < cLine) (h : Q (.bool (!(es.size == 0))) s) : wpAny (model prog w) A (compareOp .NotEq (.ref a) (.ref b)) Q E s := by
  refine wpAny_richCompare_same_room (op := .NotEq) da.typeIs db.typeIs PySem.F.slot_dict_ne (wpAny_call_entry PySem.F.slot_dict_ne da.typeIs PySem.F.entry_dict_ne ?_ (PySem.F.args_dict_ne_2 _ _)) hu
  show wpAny _ _ (Builtin.Dict.dictSlotArgs "__ne__" ⟨[.ref a, .ref b], []⟩ >>= _) _ _ s
  refine wpAny_bind ?_
  unfold Builtin.Dict.dictSlotArgs
  refine wpAny_bind (wpAny_notOrdered_dict da.typeIs ?_)
  show wpAny _ _ (pure (Value.ref a, Value.ref b)) _ _ s
  refine wpAny_pure ?_
  refine wpAny_bind (wpAny_isInstance (T := "dict") db.typeIs PySem.F.sub_dict_dict ?_)
  simp only [Bool.not_true, Bool.false_eq_true, if_false]
  refine wpAny_bind (wpAny_pure (wpAny_bind (wpAny_pure ?_)))
  refine wpAny_bind (samePairs0 ha hb da db ?_)
  refine wpAny_pure ⟨_, rfl, ?_, ?_⟩
  · exact fun x => nomatch x
  · simpa using h
end
end PySem.W
namespace DL
open PySem PySem.Spec PyProof.Rows L2
section
variable {X : Cx} {o e f : Expr} {to te tf : TD} {t : TDA} {apos cpos : Pos}
/-! ### d != {} -/
def rNe0 (X : Cx) : R2 := fun x y H Q => ∃ (a b : Addr) (G : Gp) (kvs : List (NestedKey × D × D)), x = .ref a ∧ y = .ref b ∧ RG X.K X.m H G ∧ dnOf G a = some kvs ∧ dnOf G b = some [] ∧ Q (.bl (!kvs.isEmpty)) H
theorem op_ne0 (hu : X.A.units + 64 < cLine) : OpR X (compareOp .NotEq) (rNe0 X) := by
  intro pins s σ H x y v u Q I rx ry ⟨a, b, G, kvs, ex, ey, rg, e1, e2, q⟩
  subst ex ey
  obtain rfl : v = Value.ref a := rx
  obtain rfl : u = Value.ref b := ry
  obtain ⟨xs, h2, ⟨o, es, ep, ho, hx, hdt, he, _, _⟩, hs, z⟩ := dn_at I rg e1
  obtain ⟨ys, g2, ⟨o', es', ep', ho', hx', hdt', he', _, _⟩, hs', z'⟩ := dn_at I rg e2
  have l1 : es.size = xs.length := size_of_entries he
  have l2 : kvs.length = xs.length := Paired.length h2
  have l3 : es'.size = ys.length := size_of_entries he'
  have l4 : ([] : List (NestedKey × D × D)).length = ys.length := Paired.length g2
  have e0 : es' = #[] := by
    apply Array.eq_empty_of_size_eq_zero
    rw [l3, ← l4]
    rfl
  subst e0
  refine PySem.W.ne0_dict hs hs' ⟨o, ho, hx, hdt⟩ ⟨o', ho', hx', hdt'⟩ (by omega) ?_
  have eb : (es.size == 0) = kvs.isEmpty := by
    rw [l1, ← l2]
    cases kvs <;> rfl
  rw [eb]
  exact ⟨.bl _, H, I, rfl, q⟩
def oNe0 : RD2 := fun x y G Q => ∃ a b kvs, x = .ref a ∧ y = .ref b ∧ dnOf G a = some kvs ∧ dnOf G b = some [] ∧ Q (.bl (!kvs.isEmpty)) G
theorem oNe0_s : OpS X oNe0 (rNe0 X) := fun x y G Q v u H Qv ⟨a, b, kvs, ex, ey, e1, e2, q⟩ rx ry rg kk => by
  subst ex ey
  exact ⟨a, b, G, kvs, rv_ref_inv rx, rv_ref_inv ry, rg, e1, e2, kk _ G _ H q rv_bl rg (Fr.refl _ _)⟩
/-! ### xs.remove(x) -/
def rRemD (X : Cx) : V → List V → Hp → VK → Prop := fun x vs H Q => ∃ (a : Addr) (G : Gp) (l : List D) (y : D) (v : V) (j : Nat), x = .ref a ∧ vs = [v] ∧ RG X.K X.m H G ∧ G a = some (.lst l) ∧ Rv X.K X.m H y v ∧ (∀ d ∈ l, Okd 8 d) ∧ Okd 8 y ∧ (l.findIdx? fun d => PyData.eqv d.toP y.toP) = some j ∧
  ∀ ws, Rvs X.K X.m H (l.eraseIdx j) ws → Q .non (upd H a (.lst ws))
theorem mt_removeD (hu : X.A.units + 64 < cLine) : MtR X "list.remove" (rRemD X) := by
  intro pins s σ H x vs v us Q I rx rv ⟨a, G, l, y, w, j, ex, ev, rg, e, ry, ho, hy, hj, q⟩
  subst ex ev
  obtain rfl : v = Value.ref a := rx
  obtain ⟨u, rfl, ru⟩ := Vals.one rv
  obtain ⟨ws, h1, h2, h3⟩ := rg a _ e
  obtain ⟨z, its, n, r, hl, e0⟩ := I.lstM h1
  obtain ⟨as, rs⟩ := Dp.readsAll I _ _ _ (rvs_dp l ws ho h2) r
  obtain ⟨bs, rx⟩ := Dp.reads I _ _ _ (rv_dp 8 y w hy ry) ru
  obtain ⟨p1, p2⟩ := okds_plain ho
  obtain ⟨q1, q2⟩ := okd_plain 8 y hy
  refine SeqAt.remove_list_data (l := a) (vs := its.toArray) (xs := l.map D.toP) (d := y.toP) (j := j) ⟨_, e0, rfl, n, rfl⟩ (by simpa using rs) rx p1 q1 ?_ ?_ (by rw [List.size_toArray, ← hl]; exact z) ?_
  · have := Nat.min_le_right (PyData.depthAll (l.map D.toP)) y.toP.depth
    omega
  · unfold SeqAt.dataPlace
    rw [List.findIdx?_map]
    exact hj
  · have r2 : Vals (ws.eraseIdx j) (its.eraseIdx j) := r.eraseIdx j
    refine ⟨.non, _, I.lset (its' := its.eraseIdx j) h1 e0 ?_ r2 ?_, rfl, q _ (h2.eraseIdx j)⟩
    · show its.toArray.eraseIdxIfInBounds j = (its.eraseIdx j).toArray
      rw [List.eraseIdxIfInBounds_toArray]
    · have := List.length_eraseIdx_le ws j
      omega
def oRemove : OM := fun x ds G Q => ∃ a l y j, x = .ref a ∧ ds = [y] ∧ G a = some (.lst l) ∧ (∀ d ∈ l, Okd 8 d) ∧ Okd 8 y ∧ (l.findIdx? fun d => PyData.eqv d.toP y.toP) = some j ∧ Q .non (up G a (.lst (l.eraseIdx j)))
theorem oRemove_s : MeS X oRemove (rRemD X) := fun x ds G Q v vs H Qv ⟨a, l, y, j, ex, ed, e, ho, hy, hj, q⟩ rx rd rg k => by
  subst ex ed
  obtain ⟨u, rfl, ru⟩ := one_inv rd
  refine ⟨a, G, l, y, u, j, rv_ref_inv rx, rfl, rg, e, ru, ho, hy, hj, fun ws hw => ?_⟩
  have tk := keep_put (o := .lst ws) rg e
  obtain ⟨_, _, _, hz⟩ := rg a _ e
  refine k _ _ _ _ q rv_non (rg.put e ⟨_, upd_same, hw.mono tk, ?_⟩) (Fr.put e)
  have := List.length_eraseIdx_le l j
  omega
theorem de_remove (hu : X.A.units + 64 < cLine) (ho : DE X o to) (ha : DE X e te) (hbase : attributeBase o "remove" X.env (eval o X.env) = eval o X.env := by rfl)
    (hfew : ((backTo cpos (starEach [e] X.env)).all (fun x => !x.1) && (backToKw cpos (keywordEach [] X.env)).all (fun x => x.1.isSome)
      && decide (([e] : List Expr).length + ([] : List Keyword).length + (if ([] : List Keyword).isEmpty then 0 else 1) < 30)) = true := by rfl)
    (hline : (apos.endLine == cpos.line) = true := by rfl) (hst : starEach [e] X.env = (false, eval e X.env) :: starEach [] X.env := by rfl) : DE X (.Call (.Attribute o "remove" apos) [e] [] cpos) (dM to (dCons te dNil) oRemove) :=
  de_lm F.slot_list_remove F.type_list_remove (mt_removeD hu) oRemove_s ho (da_cons ha da_nil hst) hbase hfew hline hst rfl
/-! ### d.setdefault(k, v) -/
def rSdN (X : Cx) : V → List V → Hp → VK → Prop := fun x vs H Q => ∃ (a : Addr) (G : Gp) (kvs : List (NestedKey × D × D)) (dk dv : D) (k : NestedKey) (b : Addr) (v : V), x = .ref a ∧ vs = [.ref b, v] ∧ RG X.K X.m H G ∧ G a = some (.dn kvs) ∧ nk dk = some k ∧ k.depth ≤ 8 ∧ Rv X.K X.m H dk (.ref b) ∧ Rv X.K X.m H dv v ∧ kvs.length < sizeLine ∧
  (∀ d, valN kvs k = some d → ∀ u, Rv X.K X.m H d u → Q u H) ∧ (valN kvs k = none → ∀ xs', (∃ h, NestF X.prog X.w a xs' h) → Paired (RN X.K X.m H) (putN kvs k dk dv) xs' → Q v (upd H a (NestO X.prog X.w a xs')))
def tSdN (X : Cx) (to : TE) (t : TA) : TE := fun σ H Q => to σ H fun x H1 => (∃ a xs, x = .ref a ∧ H1 a = some (NestO X.prog X.w a xs)) ∧ t σ H1 fun vs H2 => rSdN X x vs H2 Q
theorem pe_sdN {to' : TE} {t' : TA} (hu : X.A.units + 64 < cLine) (ho : PE X o to') (ha : PA X [e, f] t')
    (hbase : attributeBase o "setdefault" X.env (eval o X.env) = eval o X.env := by rfl)
    (hfew : ((backTo cpos (starEach [e, f] X.env)).all (fun x => !x.1) && (backToKw cpos (keywordEach [] X.env)).all (fun x => x.1.isSome)
      && decide (([e, f] : List Expr).length + ([] : List Keyword).length + (if ([] : List Keyword).isEmpty then 0 else 1) < 30)) = true := by rfl)
    (hline : (apos.endLine == cpos.line) = true := by rfl) (hs : starEach [e, f] X.env = (false, eval e X.env) :: starEach [f] X.env := by rfl) (hplain : (backTo cpos (starEach [f] X.env)).any (·.1) = false := by rfl) :
    PE X (.Call (.Attribute o "setdefault" apos) [e, f] [] cpos) (tSdN X to' t') := by
  refine ⟨fun pins s σ H Q I h => ?_⟩
  refine wpAny_Call_method_late hbase hfew hline rfl (thn (ho.run pins s σ H _ I h) fun v s1 ⟨x, H1, I1, r1, ⟨a, xs, ex, ty⟩, q1⟩ => ?_)
  subst ex
  obtain rfl : v = Value.ref a := r1
  obtain ⟨o', es, ep, g1, g2, g3, g4⟩ := (I1.hok a _ ty).1
  refine ⟨"dict", _, PySem.F.plainAttrs_dict, PySem.F.slot_dict_setdefault, PySem.F.type_dict_setdefault, ⟨o', g1, g2.1⟩, (fun b z => by cases z; exact ⟨o', g1, g2.2.1⟩), ?_⟩
  have hA := ha.run cpos pins s1 σ H1 _ I1 q1
  rw [hs] at hA ⊢
  refine Calls.callWith_builtin (by show (false || (backTo cpos (starEach [f] X.env)).any (·.1)) = false; rw [hplain] <;> rfl) (Calls.evalArgs_plain ?_)
  refine thn hA fun us s2 ⟨vs, H2, I2, r2, a', G, kvs, dk, dv, k, b, w', ea, ev, rg, e, hk, hd, rk, rd, hz, q2, q3⟩ => ?_
  cases ea
  subst ev
  obtain ⟨u1, u2, rfl, ru1, ru2⟩ := vals2 r2
  obtain rfl : u1 = Value.ref b := ru1
  obtain ⟨xs2, h1, h2, h3, h4, h5⟩ := dn_own I2 rg e
  have f := rn_val (k := k) h2
  refine call_setdefault_heap (knd := nestedKind X.prog X.w) (hsz := by rw [← Paired.length h2]; omega) (show X.A.units + 1 + 8 < cLine by omega) ⟨rv_nest I2 hk rk rfl, hd⟩ h4 h3 (fun p hp => ?_) fun hn h' dd' hs' => ?_
  · cases c : valN kvs k with
    | none => rw [c] at f; rw [f] at hp; cases hp
    | some d =>
      rw [c] at f
      obtain ⟨p', hp', v', rv', rd'⟩ := f
      rw [hp] at hp'
      cases hp'
      exact ⟨v', H2, I2.tok _, rv', q2 d c v' rd'⟩
  · cases c : valN kvs k with
    | some d =>
      rw [c] at f
      obtain ⟨p', hp', _⟩ := f
      rw [hn] at hp'
      cases hp'
    | none =>
      obtain ⟨o2, es2, ep2, k1, k2, k3, k4, k5, k6⟩ := dd'
      have hf : NestF X.prog X.w a (storedH xs2 k b u2) h' := ⟨o2, es2, ep2, k1, k2, k3, k4, k6, h4⟩
      exact ⟨w', _, d_write (t' := _) I2 (by rw [h1]; exact nest_mut) hs' ⟨o2, k1⟩ (nest_ok hf), ru2, q3 c _ ⟨h', hf⟩ (rn_put hk hd rk rd ru2 h2)⟩
def dSetdef (to : TD) (t : TDA) : TD := fun env G Q => to env G fun x G1 => (∃ a kvs, x = .ref a ∧ G1 a = some (.dn kvs)) ∧ t env G1 fun ds G2 => ∃ a kvs l v k, x = .ref a ∧ ds = [.tup l, v] ∧ G2 a = some (.dn kvs) ∧ nk (.tup l) = some k ∧ k.depth ≤ 8 ∧ kvs.length < sizeLine ∧
  (∀ d, valN kvs k = some d → Q d G2) ∧ (valN kvs k = none → Q v (up G2 a (.dn (putN kvs k (.tup l) v))))
theorem de_setdef (hu : X.A.units + 64 < cLine) (ho : DE X o to) (ha : DA X [e, f] t)
    (hbase : attributeBase o "setdefault" X.env (eval o X.env) = eval o X.env := by rfl)
    (hfew : ((backTo cpos (starEach [e, f] X.env)).all (fun x => !x.1) && (backToKw cpos (keywordEach [] X.env)).all (fun x => x.1.isSome)
      && decide (([e, f] : List Expr).length + ([] : List Keyword).length + (if ([] : List Keyword).isEmpty then 0 else 1) < 30)) = true := by rfl)
    (hline : (apos.endLine == cpos.line) = true := by rfl) (hs : starEach [e, f] X.env = (false, eval e X.env) :: starEach [f] X.env := by rfl) (hplain : (backTo cpos (starEach [f] X.env)).any (·.1) = false := by rfl) :
    DE X (.Call (.Attribute o "setdefault" apos) [e, f] [] cpos) (dSetdef to t) :=
  de_of (pe_sdN hu ho ha hbase hfew hline hs hplain) fun σ H env G Q Qv rs rg h k => ⟨env, G, _, rs, rg, h, fun x G1 v H1 ⟨⟨a, kvs, ex, e1⟩, q⟩ r rg1 f1 => by
    subst ex
    rw [rv_ref_inv r]
    obtain ⟨xs, h1, _⟩ := rg1 a _ e1
    refine ⟨⟨a, xs, rfl, h1⟩, env, G1, _, rs.mono (f1.keep rg), rg1, q, fun ds G2 vs H2 ⟨a', kvs', l, y, kk, ex, ed, e2, hk, hd, hz, q2, q3⟩ r2 rg2 f2 => ?_⟩
    cases ex
    subst ed
    obtain ⟨v1, v2, rfl, r3, r4⟩ := two_inv r2
    obtain ⟨b, vs, rfl, b1, b2, b3⟩ := rv_tup_inv r3
    have f12 := f1.trans f2
    refine ⟨a, G2, kvs', .tup l, y, kk, b, v2, rfl, rfl, rg2, e2, hk, hd, r3, r4, hz, fun d hv u ru => k _ G2 _ _ (q2 d hv) ru rg2 f12, fun hn xs' hf hp => ?_⟩
    have tk := keep_put (o := NestO X.prog X.w a xs') rg2 e2
    refine k _ _ _ _ (q3 hn) (r4.mono tk) (rg2.put e2 ⟨xs', upd_same, hf, Paired.mapP hp fun _ _ z => z.mono tk, ?_⟩) (f12.trans (Fr.put e2))
    have := putN_length kvs' kk (.tup l) y
    omega⟩
end
end DL
end
section
set_option Elab.async false
set_option linter.all false
set_option maxRecDepth 100000
set_option maxHeartbeats 4000000
/-! What is walked: range, zip, enumerate. -/
namespace PySem
open Sem (wp)
open AutoSeq1 (wpAny_loadPart')
theorem meets_enumerate_newT (l : Addr) (items : Array Value) (n : Nat) (dct : Option Addr) (sl : Array (Option Value)) :
    Meets (Builtin.«enumerate.__new__» ⟨[.type "enumerate", .ref l], []⟩) (fun _ R s => s.heap.get? l = some { cls := .type "tuple", dict := dct, data := .seq items n, slots := sl } ∧
      R (.ok (.ret (.ref (s.heap.push { cls := .type "tuple_iterator", data := .fields #[.ref l, .int 0 0] }).objs.size)))
        { s with heap := (s.heap.push { cls := .type "tuple_iterator", data := .fields #[.ref l, .int 0 0] }).push { cls := .type "enumerate", data := .fields #[.none, .bool false, .ref s.heap.objs.size, rawInt 0, .none, .none] } }) :=
  .of_wp fun prog w A R s h => by
    obtain ⟨hp, g, d, tk, os⟩ := s; obtain ⟨hl, h⟩ := h
    have hsub := sub_enumerate
    have hL : Heap.IsTuple (Shared.heap ⟨hp, g, d, tk, os⟩) l items := ⟨_, hl, rfl, n, rfl⟩
    wp_walk using wpAny_loadPart' hl
    refine wpAny_stack_any fun st => wpAny_pure ?_
    split
    · rename_i c _ _ _ _ _
      cases (c == Value.type "enumerate")
      · wp_walk using wpAny_loadPart' hl, wpAny_pyIter_tuple hL
        exact ⟨_, rfl, h⟩
      · wp_walk using wpAny_loadPart' hl, wpAny_pyIter_tuple hL
        exact ⟨_, rfl, h⟩
    · wp_walk using wpAny_loadPart' hl, wpAny_pyIter_tuple hL
      exact ⟨_, rfl, h⟩
section
variable {prog : Program} {w : World} {A : Around} {E : Value → Shared → Prop} {s : Shared}
theorem call_enumerate_tup {l : Addr} {items : Array Value} {Q : Value → Shared → Prop} (hL : s.heap.IsTuple l items)
    (h : ∀ h', IsEnum h' (s.heap.objs.size + 1) s.heap.objs.size 0 .none → h'.IsTupleIter s.heap.objs.size l 0 → h'.objs.size = s.heap.objs.size + 2 →
      (∀ b o, s.heap.get? b = some o → h'.get? b = some o) → Q (.ref (s.heap.objs.size + 1)) { s with heap := h' }) :
    wpAny (model prog w) A (call (.type "enumerate") [.ref l]) Q E s := by
  obtain ⟨⟨c, dct, dt, sl⟩, hl, hc, n, hd⟩ := hL
  replace hc : c = .type "tuple" := hc
  replace hd : dt = .seq items n := hd
  subst hc hd
  refine callType_new F.called_enumerate (by decide) (F.typeCall_enumerate_1 _) (F.newCall_enumerate_1 _) (fun obj => F.args_object_init_2 obj _) F.entry_enumerate_new
    (meets_enumerate_newT l items n dct sl) ⟨hl, ?_⟩
  have hz : (s.heap.push { cls := .type "tuple_iterator", data := .fields #[.ref l, .int 0 0] }).objs.size = s.heap.objs.size + 1 := Heap.size_push ..
  show _ ∧ _
  rw [hz]
  have he : IsEnum ((s.heap.push { cls := .type "tuple_iterator", data := .fields #[.ref l, .int 0 0] }).push
      { cls := .type "enumerate", data := .fields #[.none, .bool false, .ref s.heap.objs.size, rawInt 0, .none, .none] }) (s.heap.objs.size + 1) s.heap.objs.size 0 .none := by
    have := Heap.get?_push_size (s.heap.push { cls := .type "tuple_iterator", data := .fields #[.ref l, .int 0 0] })
      (o := { cls := .type "enumerate", data := .fields #[.none, .bool false, .ref s.heap.objs.size, rawInt 0, .none, .none] }) rfl
    rw [hz] at this; exact this
  refine ⟨⟨_, he, rfl⟩, h _ he ⟨_, Heap.get?_push_of_some _ (Heap.get?_push_size _ rfl), rfl, rfl⟩ (by rw [Heap.size_push, hz]) fun b o x => Heap.get?_push_of_some _ (Heap.get?_push_of_some _ x)⟩
end
end PySem
namespace DL
open PySem PySem.Spec PyProof.Rows L2 RZ
/-! ### range -/
section
variable {X : Cx}
def rgD (lo : Int) (n : Nat) : List D := (List.range n).map fun i => .int (lo + (i : Nat))
theorem rgD_length {lo : Int} {n : Nat} : (rgD lo n).length = n := by unfold rgD; rw [List.length_map, List.length_range]
theorem itd_range {lo : Int} {n : Nat} : ItD X (Itr lo n) (rgD lo n) (fun _ => True) (fun _ => True) where
  stop := fun i H G rg _ _ hl => by
    rw [rgD_length] at hl
    exact hl
  go := fun i H G d rg _ _ hd => by
    have := (List.getElem?_eq_some_iff.mp hd).1
    rw [rgD_length] at this
    exact this
  yld := fun i H G d x H' rg _ _ hd ⟨eH, hx⟩ => by
    subst eH hx
    have hi := (List.getElem?_eq_some_iff.mp hd).1
    rw [rgD_length] at hi
    unfold rgD at hd
    rw [List.getElem?_map, List.getElem?_range hi] at hd
    cases hd
    exact ⟨rg, Fr.refl _ _, rv_int⟩
  hk := fun _ _ _ _ _ _ _ => True.intro
def dRange1 (t : TDA) : TDI := fun env G R => t env G fun ds G1 => ∃ j : Int, ds = [.int j] ∧ -(2 ^ 62) ≤ j ∧ j.toNat ≤ sizeLine ∧ R (rgD 0 j.toNat) (fun _ => True) G1
def dRange2 (t : TDA) : TDI := fun env G R => t env G fun ds G1 => ∃ i j : Int, ds = [.int i, .int j] ∧ (-(2 ^ 62) ≤ i ∧ i < 2 ^ 62 ∧ -(2 ^ 62) ≤ j ∧ j < 2 ^ 62) ∧ (j - i).toNat ≤ sizeLine ∧ R (rgD i (j - i).toNat) (fun _ => True) G1
theorem di_range1 {tg a : Expr} {ta : TDA} {p pos : Pos} (hg : Gl X "range") (hm : X.mg "range" = none) (ha : DA X [a] ta) (hs : starEach [a] X.env = [(false, eval a X.env)] := by rfl) : DI X tg (.Call (.Name "range" p) [a] [] pos) (dRange1 ta) :=
  PI.mono (pi_range1 hg hm ha hs) fun σ H R ⟨env, G, Q, rs, rg, h, k⟩ => ⟨env, G, _, rs, rg, h, fun ds G1 vs H1 ⟨j, e, h1, h2, q⟩ r rg1 f => by
    subst e
    obtain ⟨v, rfl, rv⟩ := one_inv r
    rw [rv_int_inv rv]
    have hz := sizeLine_eq
    exact ⟨j, rfl, h1, by omega, k _ _ _ G1 _ H1 q itd_range True.intro rg1 f (by rw [rgD_length]; exact h2)⟩⟩
theorem di_range2 {tg a b : Expr} {ta : TDA} {p pos : Pos} (hg : Gl X "range") (hm : X.mg "range" = none) (ha : DA X [a, b] ta) (hs : starEach [a, b] X.env = [(false, eval a X.env), (false, eval b X.env)] := by rfl) (hs2 : starEach [b] X.env = [(false, eval b X.env)] := by rfl) : DI X tg (.Call (.Name "range" p) [a, b] [] pos) (dRange2 ta) :=
  PI.mono (pi_range2 hg hm ha hs hs2) fun σ H R ⟨env, G, Q, rs, rg, h, k⟩ => ⟨env, G, _, rs, rg, h, fun ds G1 vs H1 ⟨i, j, e, h1, h2, q⟩ r rg1 f => by
    subst e
    obtain ⟨v, w, rfl, rv, rw'⟩ := two_inv r
    rw [rv_int_inv rv, rv_int_inv rw']
    exact ⟨i, j, rfl, h1, k _ _ _ G1 _ H1 q itd_range True.intro rg1 f (by rw [rgD_length]; exact h2)⟩⟩
/-! ### zip -/
def zipD (l m : List D) : List D := List.zipWith (fun x y => .tup [x, y]) l m
theorem two_line : 2 ≤ sizeLine := by rw [sizeLine_eq]; omega
theorem pair_new {H : Hp} {G : Gp} {T : Addr} {x y : D} {v w : V} (rg : RG X.K X.m H G) (nT : H T = none) (r1 : Rv X.K X.m H x v) (r2 : Rv X.K X.m H y w) :
    RG X.K X.m (upd H T (.tup [v, w])) G ∧ Fr G G H (upd H T (.tup [v, w])) ∧ Rv X.K X.m (upd H T (.tup [v, w])) (.tup [x, y]) (.ref T) := by
  have tk := keep_new (K := X.K) (o := .tup [v, w]) nT
  exact ⟨rg.new nT, Fr.new nT, rv_tup (.inl (.inl upd_same)) (rvs_cons (r1.mono tk) (rvs_cons (r2.mono tk) rvs_nil)) two_line⟩
theorem zip_get {l m : List D} {i : Nat} {d : D} (h : (zipD l m)[i]? = some d) : ∃ x y, l[i]? = some x ∧ m[i]? = some y ∧ d = .tup [x, y] := by
  unfold zipD at h
  rw [List.getElem?_zipWith] at h
  cases e1 : l[i]? with
  | none => rw [e1] at h; simp at h
  | some x =>
    cases e2 : m[i]? with
    | none => rw [e1, e2] at h; simp at h
    | some y => rw [e1, e2] at h; simp at h; exact ⟨x, y, rfl, rfl, h.symm⟩
theorem zip_len {l m : List D} {i : Nat} (h : (zipD l m).length ≤ i) : l.length ≤ i ∨ m.length ≤ i := by
  unfold zipD at h
  rw [List.length_zipWith] at h
  omega
theorem itd_zipL {a b : Addr} {l m : List D} : ItD X (Itz X.K a b) (zipD l m) (fun G => lstAt G a = some l ∧ lstAt G b = some m) (fun _ => True) where
  stop := fun i H G rg ⟨e1, e2⟩ _ hl => by
    obtain ⟨xs, h1, h2, _⟩ := rg.lst e1
    obtain ⟨ys, g1, g2, _⟩ := rg.lst e2
    refine ⟨xs, ys, h1, g1, ?_⟩
    rw [← h2.length, ← g2.length]
    exact zip_len hl
  go := fun i H G d rg ⟨e1, e2⟩ _ hd => by
    obtain ⟨xs, h1, h2, _⟩ := rg.lst e1
    obtain ⟨ys, g1, g2, _⟩ := rg.lst e2
    obtain ⟨x, y, q1, q2, _⟩ := zip_get hd
    obtain ⟨v, ev, _⟩ := h2.get q1
    obtain ⟨w, ew, _⟩ := g2.get q2
    exact ⟨xs, ys, v, w, h1, g1, ev, ew⟩
  yld := fun i H G d x H' rg ⟨e1, e2⟩ _ hd hy => by
    obtain ⟨T, v, w, rfl, nT, rfl, k1, k2⟩ := hy
    obtain ⟨xs, h1, h2, _⟩ := rg.lst e1
    obtain ⟨ys, g1, g2, _⟩ := rg.lst e2
    obtain ⟨x, y, q1, q2, rfl⟩ := zip_get hd
    obtain ⟨v', ev, r1⟩ := h2.get q1
    obtain ⟨w', ew, r2⟩ := g2.get q2
    have z1 := k1 xs h1
    have z2 := k2 ys g1
    rw [ev] at z1
    rw [ew] at z2
    cases z1
    cases z2
    exact pair_new rg nT r1 r2
  hk := fun _ _ _ _ _ _ _ => True.intro
theorem itd_zipT {a b : Addr} {l m : List D} : ItD X (ItzT X.K a b) (zipD l m) (fun _ => True) (fun H => (∃ vs, SqT X.K H a vs ∧ Rvs X.K X.m H l vs) ∧ ∃ ws, SqT X.K H b ws ∧ Rvs X.K X.m H m ws) where
  stop := fun i H G rg _ ⟨⟨xs, h1, h2⟩, ys, g1, g2⟩ hl => by
    refine ⟨xs, ys, h1, g1, ?_⟩
    rw [← h2.length, ← g2.length]
    exact zip_len hl
  go := fun i H G d rg _ ⟨⟨xs, h1, h2⟩, ys, g1, g2⟩ hd => by
    obtain ⟨x, y, q1, q2, _⟩ := zip_get hd
    obtain ⟨v, ev, _⟩ := h2.get q1
    obtain ⟨w, ew, _⟩ := g2.get q2
    exact ⟨xs, ys, v, w, h1, g1, ev, ew⟩
  yld := fun i H G d x H' rg _ ⟨⟨xs, h1, h2⟩, ys, g1, g2⟩ hd hy => by
    obtain ⟨T, v, w, rfl, nT, rfl, k1, k2⟩ := hy
    obtain ⟨x, y, q1, q2, rfl⟩ := zip_get hd
    obtain ⟨v', ev, r1⟩ := h2.get q1
    obtain ⟨w', ew, r2⟩ := g2.get q2
    have z1 := k1 xs h1
    have z2 := k2 ys g1
    rw [ev] at z1
    rw [ew] at z2
    cases z1
    cases z2
    exact pair_new rg nT r1 r2
  hk := fun G G' H H' rg f ⟨⟨xs, h1, h2⟩, ys, g1, g2⟩ => ⟨⟨xs, (f.keep rg).tup _ _ h1, h2.mono (f.keep rg)⟩, ys, (f.keep rg).tup _ _ g1, g2.mono (f.keep rg)⟩
def dZip (t : TDA) : TDI := fun env G R => t env G fun ds G1 => (∃ a b l m, ds = [.ref a, .ref b] ∧ lstAt G1 a = some l ∧ lstAt G1 b = some m ∧ R (zipD l m) (fun G => lstAt G a = some l ∧ lstAt G b = some m) G1) ∨
  ∃ l m, ds = [.tup l, .tup m] ∧ R (zipD l m) (fun _ => True) G1
theorem zipD_le {l m : List D} {n : Nat} (h : l.length ≤ n) : (zipD l m).length ≤ n := by
  unfold zipD
  rw [List.length_zipWith]
  omega
theorem di_zip {e e2 : Expr} {ta : TDA} {p pos tpos : Pos} {elts : List Expr} {kk : Nat} (hg : Gl X "zip") (hm : X.mg "zip" = none) (ha : DA X [e, e2] ta)
    (hs : starEach [e, e2] X.env = (false, eval e X.env) :: starEach [e2] X.env := by rfl) (hpl : (backTo pos (starEach [e2] X.env)).any (·.1) = false := by rfl) :
    DI X (.Tuple elts kk tpos) (.Call (.Name "zip" p) [e, e2] [] pos) (dZip ta) :=
  PI.mono (pi_zipA hg hm ha hs hpl) fun σ H R ⟨env, G, Q, rs, rg, h, k⟩ => ⟨env, G, _, rs, rg, h, fun ds G1 vs H1 q r rg1 f => by
    rcases q with ⟨a, b, l, m, e, e1, e2, q⟩ | ⟨l, m, e, q⟩
    · subst e
      obtain ⟨v, w, rfl, rv, rw'⟩ := two_inv r
      rw [rv_ref_inv rv, rv_ref_inv rw']
      obtain ⟨xs, h1, h2, h3⟩ := rg1.lst e1
      obtain ⟨ys, g1, g2, _⟩ := rg1.lst e2
      exact ⟨a, b, xs, ys, rfl, .inl ⟨h1, g1, k _ _ _ G1 _ H1 q itd_zipL True.intro rg1 f (zipD_le h3)⟩⟩
    · subst e
      obtain ⟨v, w, rfl, rv, rw'⟩ := two_inv r
      obtain ⟨a, xs, rfl, h1, h2, h3⟩ := rv_tup_inv rv
      obtain ⟨b, ys, rfl, g1, g2, g3⟩ := rv_tup_inv rw'
      exact ⟨a, b, xs, ys, rfl, .inr ⟨h1, g1, k _ _ _ G1 _ H1 q itd_zipT ⟨⟨xs, h1, h2⟩, ys, g1, g2⟩ rg1 f (zipD_le h3)⟩⟩⟩
/-! ### enumerate -/
/-- over a tuple -/
def IteT (K : PySem.W.Frag) (a : Addr) (n : Nat) : It :=
  ⟨fun i H => ∃ (xs : List V) (x : V), SqT K H a xs ∧ xs.length = n ∧ xs[i]? = some x, fun i H v H' => ∃ T x, v = .ref T ∧ H T = none ∧ H' = upd H T (.tup [.int (i : Nat), x]) ∧ ∀ xs, SqT K H a xs → xs[i]? = some x, fun i H => ∃ xs : List V, SqT K H a xs ∧ xs.length = n ∧ n ≤ i⟩
theorem tup_inj {pins : List (Addr × Obj)} {σ : L2.St} {H : Hp} {s : Shared} {a : Addr} {xs ys : List V} (I : Inv X pins σ H s) (h1 : SqT X.K H a xs) (h2 : SqT X.K H a ys) : xs = ys := by
  obtain ⟨i1, r1, p1, _⟩ := I.tuple h1
  obtain ⟨i2, r2, p2, _⟩ := I.tuple h2
  obtain ⟨o1, a1, _, n1, d1⟩ := p1
  obtain ⟨o2, a2, _, n2, d2⟩ := p2
  rw [a1] at a2
  cases a2
  rw [d1] at d2
  injection d2 with d2
  have : i1 = i2 := by simpa using d2
  subst this
  have key : ∀ {xs ys : List V} {us : List Value}, Vals xs us → Vals ys us → xs = ys := by
    intro xs ys us r
    induction r generalizing ys with
    | nil => intro q; cases q; rfl
    | cons h t ih => intro q; cases q with | cons h' t' => rw [RelV.inj h h', ih t']
  exact key r1 r2
theorem turn_enumT {P : Program} {w : World} {K : PySem.W.Frag} {elts : List Expr} {kk : Nat} {tpos : Pos} (a e it : Addr) (n : Nat) :
    Turn P w K (.Tuple elts kk tpos) (IteT K a n) [e, it] e (fun i h => (∃ old, IsEnum h e it ((i : Nat) : Int) old) ∧ h.IsTupleIter it a i ∧ e ≠ it ∧ a ≠ it ∧ a ≠ e ∧ i ≤ n) where
  mem := by simp
  obj := fun i h st b hb => by
    obtain ⟨⟨old, he⟩, ⟨o, ho, hc, hd⟩, _⟩ := st
    have e' : b = e ∨ b = it := by simpa using hb
    rcases e' with z | z
    · rw [z]; exact ⟨_, he, fun v q => nomatch q⟩
    · rw [z]; exact ⟨o, ho, fun v q => by rw [hd] at q; cases q⟩
  keep := fun i h h' st k => let ⟨⟨old, he⟩, hi, hne⟩ := st; ⟨⟨old, k e (by simp) _ he⟩, hi.at fun o q => k it (by simp) o q, hne⟩
  item := by
    intro X hP hw hK hc i pins s σ H E I hf st hg
    subst hP hw hK
    obtain ⟨⟨old, he⟩, hit, hne, hai, hae, hin⟩ := st
    obtain ⟨xs, x, hq, hn, hx⟩ := hg
    obtain ⟨its, rv, p, hz⟩ := I.tuple hq
    obtain ⟨u, hu, ru⟩ := rv.get hx
    have hel : e < s.heap.objs.size := Heap.lt_size he
    have hil : it < s.heap.objs.size := by obtain ⟨_, q, _⟩ := hit; exact Heap.lt_size q
    have hi : i < its.toArray.size := by
      have := (List.getElem?_eq_some_iff.mp hu).1
      simpa using this
    refine wpAny_pyNext_enum_itemD (Draws.tuple (A := X.A.in1) (show X.A.in1.handled = none from I.ok.hd hc) it a hai its.toArray) he ⟨hit, p⟩ hi hne (by simp [hne, Ne.symm hae]) fun y h' tk hy ho hst hT hsz hk => ?_
    have ey : y = u := by
      have h1 : its[i]? = some y := by simpa using hy
      rw [hu] at h1
      exact (Option.some.inj h1).symm
    subst ey
    refine ⟨_, rfl, wpAny_letOwnedTupleGo_enum (s := { s with heap := h', toks := tk + 1 }) ho fun h'' he' sb => ?_⟩
    have hT2 : h''.get? s.heap.objs.size = some { cls := .type "tuple", data := .seq #[.int i tk, y] } := (sb.2 _ (Nat.ne_of_gt hel)).trans hT
    have new : ObjOk X.prog X.w (upd H s.heap.objs.size (.tup [.int (i : Nat), x])) h'' s.heap.objs.size (.tup [.int (i : Nat), x]) :=
      ⟨by show 2 ≤ sizeLine; decide, [.int i tk, y], .cons ⟨_, rfl⟩ (.cons ru .nil), ⟨_, hT2, rfl, _, rfl⟩⟩
    have I1 : Inv X pins σ (upd H s.heap.objs.size (.tup [.int (i : Nat), x])) { s with heap := h'', toks := tk + 1 } :=
      I.turnedNew (ch := [e, it]) (fun b ob hb q => (sb.2 b (fun z => hb (by simp [z]))).trans (hk b ob (fun z => hb (by simp [z])) (fun z => hb (by simp [z])) q)) hf (Nat.le_refl _) new
    refine ⟨.ref s.heap.objs.size, _, I1, rfl, ⟨_, x, rfl, I.hok.fresh (Nat.le_refl _), rfl, fun ys hy => by rw [tup_inj I hy hq]; exact hx⟩, ⟨⟨y, ?_⟩, hst.1.at fun o q => (sb.2 it (Ne.symm hne)).trans q, hne, hai, hae, ?_⟩, fun b hb => ?_⟩
    · have e1 : ((i + 1 : Nat) : Int) = (i : Int) + 1 := by omega
      rw [e1]; exact he'
    · rw [← hn]
      exact (List.getElem?_eq_some_iff.mp hx).1
    · have hb' : b < s.heap.objs.size := by
        have e' : b = e ∨ b = it := by simpa using hb
        rcases e' with z | z
        · rw [z]; exact hel
        · rw [z]; exact hil
      rw [upd_ne (Nat.ne_of_lt hb')]
      exact (hf b hb).1
  done := by
    intro X hP hw hK hc i pins s σ H E I hf st hg
    subst hP hw hK
    obtain ⟨⟨old, he⟩, hit, hne, hai, hae, hin⟩ := st
    obtain ⟨xs, hq, hn, hx⟩ := hg
    obtain ⟨its, rv, p, hz⟩ := I.tuple hq
    obtain ⟨f0, f1, f2, f3, f4, f5⟩ := hf it (by simp)
    have hl := rv.length
    have ei : i = its.toArray.size := by rw [List.size_toArray]; omega
    exact wpAny_pyNext_enum_endD (Draws.tuple (A := X.A.in1) (show X.A.in1.handled = none from I.ok.hd hc) it a hai its.toArray) he (by rw [← ei]; exact ⟨hit, p⟩) fun h' eb => ⟨rfl, I.turned (t' := s.toks) (fun b o hb q => eb b o hb q) f0 f1 f3 f4 f5⟩
  self := fun A i s Q E st h => let ⟨⟨_, he⟩, _⟩ := st; wpAny_pyIter_enum he h
end
def iEnumA (K : PySem.W.Frag) (ta : TA) : TI := fun σ H R => ta σ H fun vs H1 => ∃ a xs, vs = [.ref a] ∧ ((SqL K H1 a xs ∧ R (Ite K a) H1) ∨ (SqT K H1 a xs ∧ R (IteT K a xs.length) H1))
theorem pi_enumA {X : Cx} {e : Expr} {ta : TA} {p pos tpos : Pos} {elts : List Expr} {kk : Nat} (hg : Gl X "enumerate") (hm : X.mg "enumerate" = none) (ha : PA X [e] ta) (hs : starEach [e] X.env = [(false, eval e X.env)] := by rfl) :
    PI X (.Tuple elts kk tpos) (.Call (.Name "enumerate" p) [e] [] pos) (iEnumA X.K ta) := by
  refine ⟨fun pins s σ H R I h => ?_⟩
  refine Call_ (ld_blt I hg hm boot_enumerate (PyProof.Rows.callWith_type1 (thn (ha.run pos pins s σ H _ I h) fun us s1 ⟨vs, H1, I1, r1, q1⟩ => ?_) hs rfl))
  obtain ⟨a, xs, ex, q⟩ := q1
  subst ex
  cases r1 with
  | cons r rr =>
    cases rr
    cases r
    have fp : ∀ b, b ∈ [s1.heap.objs.size + 1, s1.heap.objs.size] → FpOk X pins H1 b := fun b hb => by
      have e' : b = s1.heap.objs.size + 1 ∨ b = s1.heap.objs.size := by simpa using hb
      have hle : s1.heap.objs.size ≤ b := by
        rcases e' with z | z
        · rw [z]; exact Nat.le_add_right _ _
        · rw [z]; exact Nat.le_refl _
      exact I1.fpOk hle (I1.hok.fresh hle)
    rcases q with ⟨hq, q⟩ | ⟨hq, q⟩
    · obtain ⟨its, rv, p', hz⟩ := I1.list hq
      refine call_enumerate_list p'.isList fun h' he hit hsz hk => wpAny_pyIter_enum he ?_
      have I2 : Inv X pins σ H1 { s1 with heap := h' } := I1.kept (t' := s1.toks) hk
      exact ⟨s1.heap.objs.size + 1, [s1.heap.objs.size + 1, s1.heap.objs.size], _, _, H1, rfl, I2, turn_enum a (s1.heap.objs.size + 1) s1.heap.objs.size, ⟨⟨.none, he⟩, hit, Nat.succ_ne_self _⟩, fp, q⟩
    · obtain ⟨its, rv, p', hz⟩ := I1.tuple hq
      have alt : a < s1.heap.objs.size := by obtain ⟨_, z, _⟩ := p'; exact Heap.lt_size z
      refine call_enumerate_tup (show s1.heap.IsTuple a its.toArray from p') fun h' he hit hsz hk => wpAny_pyIter_enum he ?_
      have I2 : Inv X pins σ H1 { s1 with heap := h' } := I1.kept (t' := s1.toks) hk
      exact ⟨s1.heap.objs.size + 1, [s1.heap.objs.size + 1, s1.heap.objs.size], _, _, H1, rfl, I2, turn_enumT a (s1.heap.objs.size + 1) s1.heap.objs.size xs.length,
        ⟨⟨.none, he⟩, hit, Nat.succ_ne_self _, Nat.ne_of_lt alt, Nat.ne_of_lt (Nat.lt_succ_of_lt alt), Nat.zero_le _⟩, fp, q⟩
section
variable {X : Cx}
def enumD : Nat → List D → List D
  | _, [] => []
  | i, d :: r => .tup [.int (i : Nat), d] :: enumD (i + 1) r
theorem enumD_len : ∀ (i : Nat) (l : List D), (enumD i l).length = l.length
  | _, [] => rfl
  | i, d :: r => by rw [enumD, List.length_cons, List.length_cons, enumD_len]
theorem enumD_get : ∀ (i : Nat) (l : List D) (j : Nat) (d : D), (enumD i l)[j]? = some d → ∃ x, l[j]? = some x ∧ d = .tup [.int ((i + j : Nat) : Int), x]
  | _, [], _, _, h => by rw [enumD] at h; simp at h
  | i, x :: r, 0, d, h => by
    rw [enumD] at h
    simp at h
    exact ⟨x, rfl, h.symm⟩
  | i, x :: r, j + 1, d, h => by
    rw [enumD] at h
    obtain ⟨y, e1, e2⟩ := enumD_get (i + 1) r j d (by simpa using h)
    exact ⟨y, by simpa using e1, by rw [e2]; congr 4; omega⟩
theorem itd_enumL {a : Addr} {l : List D} : ItD X (Ite X.K a) (enumD 0 l) (fun G => lstAt G a = some l) (fun _ => True) where
  stop := fun i H G rg e1 _ hl => by
    obtain ⟨xs, h1, h2, _⟩ := rg.lst e1
    rw [enumD_len] at hl
    exact ⟨xs, h1, by rw [← h2.length]; exact hl⟩
  go := fun i H G d rg e1 _ hd => by
    obtain ⟨xs, h1, h2, _⟩ := rg.lst e1
    obtain ⟨x, q1, _⟩ := enumD_get _ _ _ _ hd
    obtain ⟨v, ev, _⟩ := h2.get q1
    exact ⟨xs, v, h1, ev⟩
  yld := fun i H G d x H' rg e1 _ hd hy => by
    obtain ⟨T, v, rfl, nT, rfl, k1⟩ := hy
    obtain ⟨xs, h1, h2, _⟩ := rg.lst e1
    obtain ⟨x, q1, rfl⟩ := enumD_get _ _ _ _ hd
    obtain ⟨v', ev, r1⟩ := h2.get q1
    have z1 := k1 xs h1
    rw [ev] at z1
    cases z1
    rw [Nat.zero_add]
    exact pair_new rg nT rv_int r1
  hk := fun _ _ _ _ _ _ _ => True.intro
theorem itd_enumT {a : Addr} {l : List D} : ItD X (IteT X.K a l.length) (enumD 0 l) (fun _ => True) (fun H => ∃ vs, SqT X.K H a vs ∧ Rvs X.K X.m H l vs) where
  stop := fun i H G rg _ ⟨xs, h1, h2⟩ hl => by
    rw [enumD_len] at hl
    exact ⟨xs, h1, h2.length.symm, hl⟩
  go := fun i H G d rg _ ⟨xs, h1, h2⟩ hd => by
    obtain ⟨x, q1, _⟩ := enumD_get _ _ _ _ hd
    obtain ⟨v, ev, _⟩ := h2.get q1
    exact ⟨xs, v, h1, h2.length.symm, ev⟩
  yld := fun i H G d x H' rg _ ⟨xs, h1, h2⟩ hd hy => by
    obtain ⟨T, v, rfl, nT, rfl, k1⟩ := hy
    obtain ⟨x, q1, rfl⟩ := enumD_get _ _ _ _ hd
    obtain ⟨v', ev, r1⟩ := h2.get q1
    have z1 := k1 xs h1
    rw [ev] at z1
    cases z1
    rw [Nat.zero_add]
    exact pair_new rg nT rv_int r1
  hk := fun G G' H H' rg f ⟨xs, h1, h2⟩ => ⟨xs, (f.keep rg).tup _ _ h1, h2.mono (f.keep rg)⟩
def dEnum (t : TDA) : TDI := fun env G R => t env G fun ds G1 => (∃ a l, ds = [.ref a] ∧ lstAt G1 a = some l ∧ R (enumD 0 l) (fun G => lstAt G a = some l) G1) ∨ ∃ l, ds = [.tup l] ∧ R (enumD 0 l) (fun _ => True) G1
theorem di_enum {e : Expr} {ta : TDA} {p pos tpos : Pos} {elts : List Expr} {kk : Nat} (hg : Gl X "enumerate") (hm : X.mg "enumerate" = none) (ha : DA X [e] ta) (hs : starEach [e] X.env = [(false, eval e X.env)] := by rfl) :
    DI X (.Tuple elts kk tpos) (.Call (.Name "enumerate" p) [e] [] pos) (dEnum ta) :=
  PI.mono (pi_enumA hg hm ha hs) fun σ H R ⟨env, G, Q, rs, rg, h, k⟩ => ⟨env, G, _, rs, rg, h, fun ds G1 vs H1 q r rg1 f => by
    rcases q with ⟨a, l, e, e1, q⟩ | ⟨l, e, q⟩
    · subst e
      obtain ⟨v, rfl, rv⟩ := one_inv r
      rw [rv_ref_inv rv]
      obtain ⟨xs, h1, h2, h3⟩ := rg1.lst e1
      exact ⟨a, xs, rfl, .inl ⟨h1, k _ _ _ G1 _ H1 q itd_enumL True.intro rg1 f (by rw [enumD_len]; exact h3)⟩⟩
    · subst e
      obtain ⟨v, rfl, rv⟩ := one_inv r
      obtain ⟨a, xs, rfl, h1, h2, h3⟩ := rv_tup_inv rv
      refine ⟨a, xs, rfl, .inr ⟨h1, ?_⟩⟩
      rw [← h2.length]
      exact k _ _ _ G1 _ H1 q itd_enumT ⟨xs, h1, h2⟩ rg1 f (by rw [enumD_len]; exact h3)⟩
end
end DL
end
section
set_option Elab.async false
set_option linter.all false
set_option maxRecDepth 100000
set_option maxHeartbeats 4000000
/-! Calls by keywords (all parameters, last one first); <= of tuples of texts; a tuple of the module; {"a": e, ..}; comprehensions of two clauses. -/
namespace DL
open PySem PySem.Spec PyProof.Rows L2
theorem rvs_rev {K : PySem.W.Frag} {m : Mg} {H : Hp} {ds : List D} {vs : List V} (h : Rvs K m H ds vs) : Rvs K m H ds.reverse vs.reverse := h.reverse
/-- a def called with all parameters by keyword, the last one first -/
structure CalR (P : Program) (w : World) (K : PySem.W.Frag) (mg : Str → Option Value) (base : Heap) (k : Nat) (x : Str) (ks : List Str) (sp : SpD) : Prop where
  ex : ∃ (f : Addr) (fd : FuncData) (ps : List Str), FnOk P w K mg base CX0 k f fd ps (lfP K ⟨mg, P, w⟩ sp) ∧ mg x = some (.ref f) ∧ PySem.W.keepIn K (.ref f) = true ∧ ps.length = ks.length ∧ ∀ (s : Shared) (ws : List Value), ws.length = ks.length → BindsTo s fd ⟨[], ks.zip ws⟩ (ps.zip ws.reverse)
structure CalXR (P : Program) (w : World) (K : PySem.W.Frag) (mg : Str → Option Value) (base : Heap) (k : Nat) (x : Str) (ks : List Str) (sp : SpX) : Prop where
  ex : ∃ (f : Addr) (fd : FuncData) (ps : List Str), FnOk P w K mg base (L2.CX P w) k f fd ps (lfPX K ⟨mg, P, w⟩ sp) ∧ mg x = some (.ref f) ∧ PySem.W.keepIn K (.ref f) = true ∧ ps.length = ks.length ∧ ∀ (s : Shared) (ws : List Value), ws.length = ks.length → BindsTo s fd ⟨[], ks.zip ws⟩ (ps.zip ws.reverse)
theorem CalR.mono {P : Program} {w : World} {K : PySem.W.Frag} {mg : Str → Option Value} {base : Heap} {j k : Nat} {x : Str} {ks : List Str} {sp : SpD} (C : CalR P w K mg base j x ks sp) (h : j ≤ k) : CalR P w K mg base k x ks sp := by
  obtain ⟨f, fd, ps, F, a, b, c⟩ := C.ex
  exact ⟨f, fd, ps, F.mono h, a, b, c⟩
theorem CalXR.mono {P : Program} {w : World} {K : PySem.W.Frag} {mg : Str → Option Value} {base : Heap} {j k : Nat} {x : Str} {ks : List Str} {sp : SpX} (C : CalXR P w K mg base j x ks sp) (h : j ≤ k) : CalXR P w K mg base k x ks sp := by
  obtain ⟨f, fd, ps, F, a, b, c⟩ := C.ex
  exact ⟨f, fd, ps, F.mono h, a, b, c⟩
section
variable {X : Cx} {k : Nat} {x : Str} {p pos : Pos} {kws : List Keyword} {u : TDA} {ks : List Str}
theorem run_kwR {CX : CXT} {sp : Sp} {E : XK} {f : Addr} {fd : FuncData} {ps : List Str} {pins : List (Addr × Obj)} {σ : L2.St} {H : Hp} {s : Shared} {Q : VK} {ws : List Value} {zs : List V} (F : FnOk X.prog X.w X.K X.mg X.base CX k f fd ps sp) (hr : Room k X.A)
    (hl : ps.length = ks.length) (hb : ∀ (s : Shared) (ws : List Value), ws.length = ks.length → BindsTo s fd ⟨[], ks.zip ws⟩ (ps.zip ws.reverse)) (hx : PassesAt CX X σ E)
    (I : Inv X pins σ H s) (rz : Vals zs ws) (h : sp zs.reverse H Q E) : wpAny (model X.prog X.w) X.A (call (.ref f) [] (ks.zip ws)) (EP X pins σ Q) X.xe s := by
  have r2 : Vals zs.reverse ws.reverse := by
    have key : ∀ {xs : List V} {us : List Value}, Vals xs us → Vals xs.reverse us.reverse := by
      intro xs us r
      induction r with
      | nil => exact .nil
      | cons h t ih => rw [List.reverse_cons, List.reverse_cons]; exact ih.append (.cons h .nil)
    exact key rz
  have hn : ws.length = ks.length := by
    have e := F.len _ _ _ _ h
    rw [List.length_reverse] at e
    rw [← rz.length, e, hl]
  refine wpAny_call (codeAny_mono (F.run X.A X.stack s H ⟨[], ks.zip ws⟩ ws.reverse zs.reverse Q E hr I.env0 (hb s ws hn) r2 h) fun r s' hq => ?_)
  cases r with
  | error e => exact hx pins H s e s' I hq
  | ok fl =>
    cases fl with
    | ret u => exact I.after hq
    | next => exact False.elim hq
    | brk => exact False.elim hq
    | cont => exact False.elim hq
def dCallR (sp : SpD) (u : TDA) : TD := fun env G Q => u env G fun es G1 => sp es.reverse G1 Q
def dCallXR (sp : SpX) (u : TDA) : TDX := fun env G Q QX => u env G fun es G1 => sp es.reverse G1 Q QX
theorem de_callR {sp : SpD} (C : CalR X.prog X.w X.K X.mg X.base k x ks sp) (hr : Room k X.A) (hg : Gl X x) (hkw : DKw X kws u) (hall : (backToKw pos (keywordEach kws X.env)).all (·.1.isSome) = true := by rfl) (hks : (backToKw pos (keywordEach kws X.env)).filterMap (·.1) = ks := by rfl) (hdb : (x == ("__debug__" : Str)) = false := by decide)
    (hpl : ((backTo pos (starEach [] X.env)).any (·.1) || (backToKw pos (keywordEach kws X.env)).any (·.1.isNone)) = false := by rfl) : DE X (.Call (.Name x p) [] kws pos) (dCallR sp u) := by
  obtain ⟨f, fd, ps, F, hm, hk, hl, hb⟩ := C.ex
  refine ⟨fun pins s σ H Qv I ⟨env, G, Q, rs, rg, h, kk⟩ => ?_⟩
  refine wpAny_Call_Name_kw (ld_glob I hg hm ?_ hdb)
  have hh := hkw.run pos pins s σ H (fun vs H1 => ∃ es G1, sp es.reverse G1 Q ∧ Rvs X.K X.m H1 es vs ∧ RG X.K X.m H1 G1 ∧ Fr G G1 H H1) I ⟨env, G, _, rs, rg, h, fun es G1 vs H1 q r rg1 f1 => ⟨es, G1, q, r, rg1, f1⟩⟩
  refine PySem.W.callWith_KW0 (h₀ := X.base) I.ok.mod.kin hk hall (thn hh fun ws s2 ⟨zs, H2, I2, rz, es, G1, q, r, rg1, f1⟩ => ⟨I2.kIn, ?_⟩) hpl
  rw [hks]
  exact run_kwR (E := E0) F hr hl hb (fun _ _ _ _ _ _ c => c.elim) I2 rz ⟨es.reverse, G1, Q, r.reverse, rg1, q, fun d G' v H' q' r' rg' f' => kk d G' v H' q' r' rg' (f1.trans f')⟩
theorem de_callXR {sp : SpX} (C : CalXR X.prog X.w X.K X.mg X.base k x ks sp) (hr : Room k X.A) (hg : Gl X x) (hkw : DKw X kws u) (hall : (backToKw pos (keywordEach kws X.env)).all (·.1.isSome) = true := by rfl) (hks : (backToKw pos (keywordEach kws X.env)).filterMap (·.1) = ks := by rfl) (hdb : (x == ("__debug__" : Str)) = false := by decide)
    (hpl : ((backTo pos (starEach [] X.env)).any (·.1) || (backToKw pos (keywordEach kws X.env)).any (·.1.isNone)) = false := by rfl) : DEX X (.Call (.Name x p) [] kws pos) (dCallXR sp u) := by
  obtain ⟨f, fd, ps, F, hm, hk, hl, hb⟩ := C.ex
  refine ⟨fun pins s σ H Qv I ⟨env, G, Q, QX, rs, rg, h, kk, kx⟩ => ?_⟩
  refine wpAny_Call_Name_kw (ld_glob I hg hm ?_ hdb)
  have hh := hkw.run pos pins s σ H (fun vs H1 => ∃ es G1, sp es.reverse G1 Q QX ∧ Rvs X.K X.m H1 es vs ∧ RG X.K X.m H1 G1 ∧ Fr G G1 H H1) I ⟨env, G, _, rs, rg, h, fun es G1 vs H1 q r rg1 f1 => ⟨es, G1, q, r, rg1, f1⟩⟩
  refine PySem.W.callWith_KW0 (h₀ := X.base) I.ok.mod.kin hk hall (thn hh fun ws s2 ⟨zs, H2, I2, rz, es, G1, q, r, rg1, f1⟩ => ⟨I2.kIn, ?_⟩) hpl
  rw [hks]
  exact run_kwR F hr hl hb (passAt (takes_wpX X) σ) I2 rz ⟨es.reverse, G1, Q, QX, r.reverse, rg1, q, fun d G' v H' q' r' rg' f' => kk d G' v H' q' r' rg' (f1.trans f'),
    fun C y G' v d H' q' r' rg' f' e1 e2 => kx C y G' v d H' q' r' rg' (f1.trans f') e1 e2⟩
end
/-! what raises nothing at these arguments -/
theorem fnOk_calm {P : Program} {w : World} {K : PySem.W.Frag} {mg : Str → Option Value} {base : Heap} {k : Nat} {f : Addr} {fd : FuncData} {ps : List Str} {sp : SpX} (F : FnOk P w K mg base (L2.CX P w) k f fd ps (lfPX K ⟨mg, P, w⟩ sp)) :
    FnOk P w K mg base CX0 k f fd ps (lfP K ⟨mg, P, w⟩ fun ds G Q => sp ds G Q fun _ _ _ => False) := by
  refine ⟨fun vs H Q E ⟨ds, G, Q1, h1, h2, h3, h4⟩ => F.len vs H Q E ⟨ds, G, Q1, _, h1, h2, h3, h4, fun _ _ _ _ _ _ z => z.elim⟩, fun A outer s H args us vs Q E hr he hb hv ⟨ds, G, Q1, h1, h2, h3, h4⟩ => ?_⟩
  refine codeAny_mono (F.run A outer s H args us vs Q E0 hr he hb hv ⟨ds, G, Q1, _, h1, h2, h3, h4, fun _ _ _ _ _ _ z => z.elim⟩) fun r s' h => ?_
  cases r with
  | ok fl =>
    cases fl with
    | ret u => exact h
    | next => exact False.elim h
    | brk => exact False.elim h
    | cont => exact False.elim h
  | error e =>
    obtain ⟨_, _, _, _, _, _, _, _, _, _, _, _, z⟩ := h
    exact z.elim
theorem CalX.cal {P : Program} {w : World} {K : PySem.W.Frag} {mg : Str → Option Value} {base : Heap} {k : Nat} {x : Str} {sp : SpX} (C : CalX P w K mg base k x sp) : Cal P w K mg base k x (fun ds G Q => sp ds G Q fun _ _ _ => False) := by
  obtain ⟨f, fd, ps, F, a, b, c⟩ := C.ex
  exact ⟨f, fd, ps, fnOk_calm F, a, b, c⟩
theorem CalXR.cal {P : Program} {w : World} {K : PySem.W.Frag} {mg : Str → Option Value} {base : Heap} {k : Nat} {x : Str} {ks : List Str} {sp : SpX} (C : CalXR P w K mg base k x ks sp) : CalR P w K mg base k x ks (fun ds G Q => sp ds G Q fun _ _ _ => False) := by
  obtain ⟨f, fd, ps, F, a, b, c⟩ := C.ex
  exact ⟨f, fd, ps, fnOk_calm F, a, b, c⟩
/-- a def that is called by place, and by keywords too -/
theorem fn_DX2 {P : Program} {w : World} {K : PySem.W.Frag} {mg : Str → Option Value} {base : Heap} {x qual : Str} {params : Arguments} {body : List Stmt} {scope : Scope} {f : Addr} {fd : FuncData} {N ps ks : List Str} {k : Nat} {sp : SpX} {t : TDS}
    (F : FunD K x qual params body scope [] [] f fd) (S : FnScope N ps scope) (hg : mg x = some (.ref f))
    (hbind : ∀ (kV doc pm : Value) (an : Option Addr) (cdv ct : Value) (us : List Value), us.length = ps.length → bindArgs (PySem.W.fnOf x qual params body scope .none kV doc pm an cdv ct) ⟨us, []⟩ = pure (ps.zip us))
    (len : ∀ ds G Q QX, sp ds G Q QX → ds.length = ps.length)
    (hb : ∀ (cdv : Value) (A : Around) (outer : List Env) (s : Shared) (H : Hp) (E : XK), Room k (A.deeper (envOfC qual scope s.heap.objs.size f cdv)) → DSs (XG P w K mg base N qual scope f cdv A outer s H E) body t)
    (hr : ∀ ds G Q QX, sp ds G Q QX → t { nx := fun _ G' => Q .non G', rt := Q, ex := QX } (startD N ds) G)
    (hl : ps.length = ks.length) (hkw : ∀ (kV doc pm : Value) (an : Option Addr) (cdv ct : Value) (us : List Value), us.length = ks.length → bindArgs (PySem.W.fnOf x qual params body scope .none kV doc pm an cdv ct) ⟨[], ks.zip us⟩ = pure (ps.zip us.reverse)) :
    CalX P w K mg base (k + 1) x sp ∧ CalXR P w K mg base (k + 1) x ks sp := by
  have ok : FnOk P w K mg base (L2.CX P w) (k + 1) f fd ps (lfPX K ⟨mg, P, w⟩ sp) := by
    refine F.ok S (fun vs H Q E ⟨ds, G, Q1, QX, h1, h2, h3, h4⟩ => h1.length ▸ len _ _ _ _ h3) (fun cdv A outer s H vs Q E hr' ⟨ds, G, Q1, QX, h1, h2, h3, h4, h5⟩ => ⟨_, hb cdv A outer s H E hr', startD N ds, G, _, rst_start h1, h2, hr _ _ _ _ h3, ?_⟩)
    refine ⟨fun env G' σ' H' q rs rg fr => h4 .non G' _ H' q rv_non rg fr, h4, fun _ _ _ _ z => z.elim, fun _ _ _ _ z => z.elim, fun C y G' v d H' q r rg fr e1 e2 σ => ?_⟩
    exact wpX_of (W := fun cls d _ H => E cls d H) (takes_of (E := E) rfl rfl rfl rfl) (h5 C y G' v d H' q r rg fr e1 e2)
  refine ⟨⟨f, fd, ps, ok, hg, F.kp, F.bindsN hbind⟩, ⟨f, fd, ps, ok, hg, F.kp, hl, fun s ws h => ?_⟩⟩
  obtain ⟨oc, od, dV, kV, doc, pm, an, cdv, ct, osl, rfl, lk, hcd, hD, hK⟩ := F.ex
  rcases hD with ⟨_, rfl⟩ | ⟨e, _⟩
  · exact .of_eq (hkw kV doc pm an cdv ct ws h)
  · exact absurd rfl e
theorem fn_D2 {P : Program} {w : World} {K : PySem.W.Frag} {mg : Str → Option Value} {base : Heap} {x qual : Str} {params : Arguments} {body : List Stmt} {scope : Scope} {f : Addr} {fd : FuncData} {N ps ks : List Str} {k : Nat} {sp : SpD} {t : TDS}
    (F : FunD K x qual params body scope [] [] f fd) (S : FnScope N ps scope) (hg : mg x = some (.ref f))
    (hbind : ∀ (kV doc pm : Value) (an : Option Addr) (cdv ct : Value) (us : List Value), us.length = ps.length → bindArgs (PySem.W.fnOf x qual params body scope .none kV doc pm an cdv ct) ⟨us, []⟩ = pure (ps.zip us))
    (len : ∀ ds G Q, sp ds G Q → ds.length = ps.length)
    (hb : ∀ (cdv : Value) (A : Around) (outer : List Env) (s : Shared) (H : Hp), Room k (A.deeper (envOfC qual scope s.heap.objs.size f cdv)) → DSs (XF P w K mg base N qual scope f cdv A outer s H) body t)
    (hr : ∀ ds G Q, sp ds G Q → t { nx := fun _ G' => Q .non G', rt := Q } (startD N ds) G)
    (hl : ps.length = ks.length) (hkw : ∀ (kV doc pm : Value) (an : Option Addr) (cdv ct : Value) (us : List Value), us.length = ks.length → bindArgs (PySem.W.fnOf x qual params body scope .none kV doc pm an cdv ct) ⟨[], ks.zip us⟩ = pure (ps.zip us.reverse)) :
    Cal P w K mg base (k + 1) x sp ∧ CalR P w K mg base (k + 1) x ks sp := by
  have ok : FnOk P w K mg base CX0 (k + 1) f fd ps (lfP K ⟨mg, P, w⟩ sp) := by
    refine F.ok S (fun vs H Q E ⟨ds, G, Q1, h1, h2, h3, h4⟩ => h1.length ▸ len _ _ _ h3) (fun cdv A outer s H vs Q E hr' ⟨ds, G, Q1, h1, h2, h3, h4⟩ => ⟨_, PSs.nox (hb cdv A outer s H hr'), startD N ds, G, _, rst_start h1, h2, hr _ _ _ h3, ?_⟩)
    exact ⟨fun env G' σ' H' q rs rg fr => h4 .non G' _ H' q rv_non rg fr, h4, fun _ _ _ _ z => z.elim, fun _ _ _ _ z => z.elim, fun _ _ _ _ _ _ z => z.elim⟩
  refine ⟨⟨f, fd, ps, ok, hg, F.kp, F.bindsN hbind⟩, ⟨f, fd, ps, ok, hg, F.kp, hl, fun s ws h => ?_⟩⟩
  obtain ⟨oc, od, dV, kV, doc, pm, an, cdv, ct, osl, rfl, lk, hcd, hD, hK⟩ := F.ex
  rcases hD with ⟨_, rfl⟩ | ⟨e, _⟩
  · exact .of_eq (hkw kV doc pm an cdv ct ws h)
  · exact absurd rfl e
end DL
end
section
set_option Elab.async false
set_option linter.all false
set_option maxRecDepth 100000
set_option maxHeartbeats 4000000
/-! <=, >, >= of alike data; x == [] and x != [] of any list; a tuple of the module; comprehensions of two clauses; displays of dicts. -/
namespace DL
open PySem PySem.Spec PyProof.Rows L2
section
variable {X : Cx}
/-! ### order -/
def rCmP (K : PySem.W.Frag) (f : PyData → PyData → Bool) : R2 := fun x y H Q => ∃ d e, Dp K H x d ∧ Dp K H y e ∧ PySem.W.alike d e = true ∧ d ≠ .none ∧ d.depth ≤ 60 ∧ Q (.bl (f d e)) H
theorem op_leP (hu : X.A.units + 64 < cLine) : OpR X (compareOp .LtE) (rCmP X.K fun d e => !PySem.W.dataLt e d) := by
  intro pins s σ H x y v u Q I rx ry h
  obtain ⟨d, e, hd, he, al, nn, dd, q⟩ := h
  obtain ⟨as, r1⟩ := Dp.reads I d x v hd rx
  obtain ⟨bs, r2⟩ := Dp.reads I e y u he ry
  exact PySem.W.rcLe_alike d e X.A s v u as bs r1 r2 al nn (min_room dd hu) X.prog X.w X.xe _ ⟨.bl _, H, I, rfl, q⟩
theorem op_gtP (hu : X.A.units + 64 < cLine) : OpR X (compareOp .Gt) (rCmP X.K fun d e => PySem.W.dataLt e d) := by
  intro pins s σ H x y v u Q I rx ry h
  obtain ⟨d, e, hd, he, al, nn, dd, q⟩ := h
  obtain ⟨as, r1⟩ := Dp.reads I d x v hd rx
  obtain ⟨bs, r2⟩ := Dp.reads I e y u he ry
  exact PySem.W.rcGt_alike d e X.A s v u as bs r1 r2 al nn (min_room dd hu) X.prog X.w X.xe _ ⟨.bl _, H, I, rfl, q⟩
theorem op_geP (hu : X.A.units + 64 < cLine) : OpR X (compareOp .GtE) (rCmP X.K fun d e => !PySem.W.dataLt d e) := by
  intro pins s σ H x y v u Q I rx ry h
  obtain ⟨d, e, hd, he, al, nn, dd, q⟩ := h
  obtain ⟨as, r1⟩ := Dp.reads I d x v hd rx
  obtain ⟨bs, r2⟩ := Dp.reads I e y u he ry
  exact PySem.W.rcGe_alike d e X.A s v u as bs r1 r2 al nn (min_room dd hu) X.prog X.w X.xe _ ⟨.bl _, H, I, rfl, q⟩
def oCmD (f : PyData → PyData → Bool) : RD2 := fun x y G Q => Alk x y ∧ Q (.bl (f x.toP y.toP)) G
theorem oCmD_s {f : PyData → PyData → Bool} : OpS X (oCmD f) (rCmP X.K f) := fun x y G Q v u H Qv ⟨⟨o1, o2, al, nn⟩, q⟩ rx ry rg k =>
  ⟨_, _, rv_dp 8 _ _ o1 rx, rv_dp 8 _ _ o2 ry, al, toP_ne nn, Nat.le_trans (okd_plain 8 _ o1).2 (by decide), k _ G _ H q rv_bl rg (Fr.refl _ _)⟩
/-- <= of alike data -/
def oLeD : RD2 := oCmD fun d e => !PySem.W.dataLt e d
/-! ### lists against the empty list -/
def rEmL (K : PySem.W.Frag) (f : Bool → Bool) : R2 := fun x y H Q => ∃ a b xs, x = .ref a ∧ y = .ref b ∧ SqL K H a xs ∧ SqL K H b [] ∧ Q (.bl (f xs.isEmpty)) H
theorem op_eqL (hu : X.A.units + 64 < cLine) : OpR X (compareOp .Eq) (rEmL X.K id) := by
  intro pins s σ H x y v u Q I rx ry ⟨a, b, xs, ex, ey, h1, h2, q⟩
  subst ex ey
  obtain rfl : v = Value.ref a := rx
  obtain rfl : u = Value.ref b := ry
  obtain ⟨its, r1, l1, _⟩ := I.list h1
  obtain ⟨jts, r2, l2, _⟩ := I.list h2
  have e2 : jts = [] := by cases r2; rfl
  subst e2
  cases xs with
  | nil =>
    have e1 : its = [] := by cases r1; rfl
    subst e1
    exact PySem.SeqAt.eq_listAt (e := fun _ => true) l1.isList l2.isList rfl (by omega) (fun j h _ => absurd h (by simp)) ⟨.bl _, H, I, rfl, q⟩
  | cons z zs =>
    cases r1 with
    | cons c1 c2 => exact PySem.SeqAt.eq_list_lengthsAt l1.isList l2.isList (by simp) (by omega) ⟨.bl _, H, I, rfl, q⟩
theorem op_neL (hu : X.A.units + 64 < cLine) : OpR X (compareOp .NotEq) (rEmL X.K not) := by
  intro pins s σ H x y v u Q I rx ry ⟨a, b, xs, ex, ey, h1, h2, q⟩
  subst ex ey
  obtain rfl : v = Value.ref a := rx
  obtain rfl : u = Value.ref b := ry
  obtain ⟨its, r1, l1, _⟩ := I.list h1
  obtain ⟨jts, r2, l2, _⟩ := I.list h2
  have e2 : jts = [] := by cases r2; rfl
  subst e2
  cases xs with
  | nil =>
    have e1 : its = [] := by cases r1; rfl
    subst e1
    exact PySem.SeqAt.RcNeAt.lists (e := fun _ => true) l1.isList l2.isList rfl (by omega) (fun j h _ => absurd h (by simp)) X.prog X.w X.xe _ ⟨.bl _, H, I, rfl, q⟩
  | cons z zs =>
    cases r1 with
    | cons c1 c2 => exact PySem.SeqAt.RcNeAt.lists_lengths l1.isList l2.isList (by simp) (by omega) X.prog X.w X.xe _ ⟨.bl _, H, I, rfl, q⟩
def oEmL (f : Bool → Bool) : RD2 := fun x y G Q => ∃ a b l, x = .ref a ∧ y = .ref b ∧ lstAt G a = some l ∧ lstAt G b = some [] ∧ Q (.bl (f l.isEmpty)) G
theorem oEmL_s {f : Bool → Bool} : OpS X (oEmL f) (rEmL X.K f) := fun x y G Q v u H Qv ⟨a, b, l, e1, e2, h1, h2, q⟩ rx ry rg k => by
  subst e1 e2
  obtain ⟨vs, g1, g2, _⟩ := rg.lst h1
  obtain ⟨ws, g3, g4, _⟩ := rg.lst h2
  rw [rvs_nil_inv g4] at g3
  have e : l.isEmpty = vs.isEmpty := by
    have := g2.length
    cases l <;> cases vs <;> simp_all
  exact ⟨a, b, vs, rv_ref_inv rx, rv_ref_inv ry, g1, g3, k _ G _ H (e ▸ q) rv_bl rg (Fr.refl _ _)⟩
/-! ### a tuple of the module -/
theorem de_gtup {x : Str} {a : Addr} {l : List D} {vs : List V} {pos : Pos} (hg : Gl X x) (hm : X.mg x = some (.ref a)) (hT : ∀ H, SqT X.K H a vs) (hr : ∀ H, Rvs X.K X.m H l vs) (hz : l.length ≤ sizeLine) (hd : (x == ("__debug__" : Str)) = false := by decide) : DE X (.Name x pos) (dC (.tup l)) :=
  de_of (pe_glob hg hm (v := V.ref a) rfl hd) fun σ H env G Q Qv rs rg q k => k _ G _ H q (rv_tup (hT H) (hr H) hz) rg (Fr.refl _ _)
/-! ### comprehensions of two clauses -/
theorem lfI_blk {wi : TDI} {s : Shared} {H0 : Hp} {scope : Scope} {env0 : Env} {fp : List Addr} (σ : L2.St) (H : Hp) (R : It → Hp → Prop) (h : lfI X wi σ H R) : lfI (X.blk s H0 scope env0 fp) wi σ H R := by
  obtain ⟨env, G, Q, rs, rg, q, k⟩ := h
  exact ⟨env, G, Q, rs, rg, q, fun items st hs G' J H' a b c d e f => k items st hs G' J H' a ⟨b.stop, b.go, b.yld, b.hk⟩ c d e f⟩
section
variable {elt tg iter tg1 iter1 : Expr} {ifs ifs1 : List Expr} {scope : Scope} {own : List (Str × Nat)} {vs1 : List Nat} {pos : Pos} {wi wi1 : TDI} {g g1 : TDG} {u u1 : TDT} {te : TD}
theorem de_lc2 (hc : X.calm = true) (hN : X.N.Nodup) (hi : DI X tg iter wi) (ok : BlkOk X.N X.env.scope scope own) (hv : ∀ i ∈ vs1, i ∈ own.map (·.2))
    (hg : Blk X scope fun Y => DV Y (own.map (·.2)) tg g) (ht : Blk X scope fun Y => DTs Y ifs u) (hi1 : Blk X scope fun Y => DI Y tg1 iter1 wi1) (hg1 : Blk X scope fun Y => DV Y vs1 tg1 g1) (ht1 : Blk X scope fun Y => DTs Y ifs1 u1)
    (he : Blk X scope fun Y => DE Y elt te) (hs : ∀ x, foldedSetIterable iter X.env x = pure x := by intro _; rfl) (hs1 : ∀ env x, foldedSetIterable iter1 env x = pure x := by intro _ _; rfl) : DE X (.ListComp elt [⟨tg, iter, ifs, 0⟩, ⟨tg1, iter1, ifs1, 0⟩] scope pos) (dLc2 wi g u wi1 g1 u1 te (own.map (·.2)) vs1) :=
  de_of (pe_lc2 hc hN hi ok hv hg ht (fun s H C cl fp => PI.mono (hi1 s H C cl fp) lfI_blk) hg1 ht1 he hs hs1) fun σ H env G Q Qv rs rg h k => lc2_lf rs rg h k
theorem ds_setLc2 {i : Nat} {y : Str} {py spos : Pos} (hc : X.calm = true) (hN : X.N.Nodup) (hy : X.N[i]? = some y) (hyl : X.env.scope.names.lookup y = some .local)
    (hsw : swapsWith (.ListComp elt [⟨tg, iter, ifs, 0⟩, ⟨tg1, iter1, ifs1, 0⟩] scope pos) (some (.Name y py)) spos.line X.env = pure true) (hi : DI X tg iter wi) (ok : BlkOk X.N X.env.scope scope own) (hv : ∀ i ∈ vs1, i ∈ own.map (·.2))
    (hg : Blk X scope fun Y => DV Y (own.map (·.2)) tg g) (ht : Blk X scope fun Y => DTs Y ifs u) (hi1 : Blk X scope fun Y => DI Y tg1 iter1 wi1) (hg1 : Blk X scope fun Y => DV Y vs1 tg1 g1) (ht1 : Blk X scope fun Y => DTs Y ifs1 u1)
    (he : Blk X scope fun Y => DE Y elt te) (hs : ∀ x, foldedSetIterable iter X.env x = pure x := by intro _; rfl) (hs1 : ∀ env x, foldedSetIterable iter1 env x = pure x := by intro _ _; rfl) :
    DS X (.Assign [.Name y py] (.ListComp elt [⟨tg, iter, ifs, 0⟩, ⟨tg1, iter1, ifs1, 0⟩] scope pos) spos) (dAsg (dLc2 wi g u wi1 g1 u1 te (own.map (·.2)) vs1) (dgName i)) :=
  ds_of (ps_setLc2 hc hN hy hyl hsw hi ok hv hg ht (fun s H C cl fp => PI.mono (hi1 s H C cl fp) lfI_blk) hg1 ht1 he hs hs1) fun D σ H env G DD rs rg h k => by
    refine lc2_lf rs rg h fun d G1 v H1 q r rg1 f => ?_
    exact k.nx _ G1 _ H1 q ((rs.mono (f.keep rg)).set r) rg1 f
end
end
end DL
end
section
set_option Elab.async false
set_option linter.all false
set_option maxRecDepth 100000
set_option maxHeartbeats 4000000
/-! Displays of dicts: {"a": e, ..}; {(a, b): e}. -/
namespace DL
open PySem PySem.Spec PyProof.Rows L2
section
variable {X : Cx} {pos : Pos}
/-- pairs with constant texts as keys -/
structure DDs (X : Cx) (pos : Pos) (keys : List (Option Expr)) (values : List Expr) (ks : List Str) (tr : TDA) : Prop where
  ex : ∃ trs, PPs X pos keys values trs ∧ ∀ σ H env G Q (Qv : List (V × V) → Hp → Prop), RSt X.K X.m H env σ → RG X.K X.m H G → tr env G Q →
    (∀ ds G' vs H', Q ds G' → ds.length = ks.length → Rvs X.K X.m H' ds vs → RG X.K X.m H' G' → Fr G G' H H' → Qv ((ks.map V.str).zip vs) H') → tPairs trs σ H Qv
theorem dds_nil : DDs X pos [] [] [] dNil := ⟨[], pps_nil, fun σ H env G Q Qv rs rg h k => k [] G [] H h rfl rvs_nil rg (Fr.refl _ _)⟩
theorem dds_cons {z : Str} {j kp} {e : Expr} {te : TD} {keys : List (Option Expr)} {values : List Expr} {ks : List Str} {tr : TDA} (he : DE X e te) (hr : DDs X pos keys values ks tr) : DDs X pos (some (.Constant (.str z) j kp) :: keys) (e :: values) (z :: ks) (dCons te tr) := by
  obtain ⟨trs, h1, h2⟩ := hr.ex
  refine ⟨⟨_, pps_cons pe_str he h1, fun σ H env G Q Qv rs rg h k => ?_⟩⟩
  refine ⟨env, G, _, rs, rg, h, fun x G1 v H1 q r rg1 f1 => ?_⟩
  refine h2 σ H1 env G1 _ _ (rs.mono (f1.keep rg)) rg1 q fun ds G2 vs H2 q2 hl r2 rg2 f2 => ?_
  exact k (x :: ds) G2 (v :: vs) H2 q2 (by simp [hl]) (rvs_cons (r.mono (f2.keep rg1)) r2) rg2 (f1.trans f2)
def mergeD (kvs more : List (Key × D)) : List (Key × D) := more.foldl (fun acc kv => putD acc kv.1 kv.2) kvs
theorem rk_merge {K : PySem.W.Frag} {mg : Mg} {H : Hp} : ∀ {more : List (Key × D)} {ms : List (Key × V)} {kvs : List (Key × D)} {ws : List (Key × V)}, Rk K mg H more ms → Rk K mg H kvs ws → Rk K mg H (mergeD kvs more) (mergeK ws ms)
  | _, _, _, _, .nil, h => h
  | p :: more, q :: ms, kvs, ws, .cons a t, h => by
    have h2 : Rk K mg H (putD kvs p.1 p.2) (putK ws q.1 q.2) := by
      rw [← a.1]
      exact rk_put a.2 h
    exact rk_merge (kvs := putD kvs p.1 p.2) (ws := putK ws q.1 q.2) t h2
theorem mergeD_length : ∀ (more kvs : List (Key × D)), (mergeD kvs more).length ≤ kvs.length + more.length
  | [], kvs => by show kvs.length ≤ kvs.length + 0; omega
  | p :: r, kvs => by
    have h1 := mergeD_length r (putD kvs p.1 p.2)
    have h2 := putD_length kvs p.1 p.2
    show (mergeD (putD kvs p.1 p.2) r).length ≤ _
    rw [List.length_cons]; omega
theorem rk_zip {K : PySem.W.Frag} {mg : Mg} {H : Hp} : ∀ {ks : List Str} {ds : List D} {vs : List V}, Rvs K mg H ds vs → Rk K mg H ((ks.map fun z => (.inr z : Key)).zip ds) ((ks.map fun z => (.inr z : Key)).zip vs)
  | [], _, _, r => .nil
  | z :: ks, [], vs, r => by rw [rvs_nil_inv r]; exact .nil
  | z :: ks, d :: ds, vs, r => by
    obtain ⟨v, ws, rfl, r1, r2⟩ := rvs_cons_inv r
    exact .cons ⟨rfl, r1⟩ (rk_zip r2)
theorem zip_kV : ∀ (ks : List Str) (vs : List V), (ks.map V.str).zip vs = ((ks.map fun z => (.inr z : Key)).zip vs).map fun kv => (kV kv.1, kv.2)
  | [], _ => rfl
  | z :: ks, [] => rfl
  | z :: ks, v :: vs => by
    have e := zip_kV ks vs
    show (V.str z, v) :: (ks.map V.str).zip vs = (kV (.inr z), v) :: (((ks.map fun z => (.inr z : Key)).zip vs).map fun kv => (kV kv.1, kv.2))
    rw [e]
    rfl
def dDisp (ks : List Str) (tr : TDA) : TD := fun env G Q => ∀ p, G p = none → tr env (up G p (.dk [])) fun ds G2 => G2 p = some (.dk []) ∧ Q (.ref p) (up G2 p (.dk (mergeD [] ((ks.map fun z => (.inr z : Key)).zip ds))))
theorem de_disp {keys : List (Option Expr)} {values : List Expr} {ks : List Str} {tr : TDA} (h : DDs X pos keys values ks tr) (hall : keys.all (·.isSome) = true := by rfl) (hl : keys.length = values.length := by rfl) (h0 : keys ≠ [] := by exact List.cons_ne_nil _ _)
    (h15 : keys.length ≤ 15 := by decide) (hk : ks.length ≤ 15 := by decide) : DE X (.Dict keys values pos) (dDisp ks tr) := by
  obtain ⟨trs, h1, h2⟩ := h.ex
  refine de_of (pe_disp h1 hall hl h0 h15) fun σ H env G Q Qv rs rg h k p np => ?_
  have ex : RO X.K X.m (upd H p (.dK [])) p (.dk []) := ⟨[], upd_same, .nil, Nat.zero_le _⟩
  have rg0 := rg.newS np ex
  have f0 : Fr G (up G p (.dk [])) H (upd H p (.dK [])) := Fr.newS np
  refine h2 σ _ env _ _ _ (rs.mono (keep_new np)) rg0 (h p (rg.fresh np)) fun ds G2 vs H2 ⟨e2, q⟩ hl r rg2 f => ?_
  obtain ⟨ws, g1, g2, _⟩ := rg2 p _ e2
  cases g2
  refine ⟨g1, _, zip_kV ks vs, ?_, ?_⟩
  · rw [List.length_zip, List.length_map]
    omega
  · refine k _ _ _ _ q rv_ref (rg2.put e2 ⟨_, upd_same, (rk_merge (rk_zip r) .nil).mono (keep_put rg2 e2), ?_⟩) (f0.trans (f.trans (Fr.put e2)))
    have a := mergeD_length ((ks.map fun z => (.inr z : Key)).zip ds) []
    rw [List.length_zip, List.length_map, List.length_nil] at a
    rw [sizeLine_eq]
    omega
/-! ### {(a, b): e} -/
def tDispN (X : Cx) (tk tv : TE) : TE := fun σ H Q => ∀ p, H p = none → (∃ h, NestF X.prog X.w p [] h) → tk σ (upd H p (NestO X.prog X.w p [])) fun x H1 => tv σ H1 fun y H2 => ∃ (G : Gp) (di dv : D) (k : NestedKey) (b : Addr), RG X.K X.m H2 G ∧ G p = some (.dn []) ∧ nk di = some k ∧ k.depth ≤ 8 ∧ x = .ref b ∧ Rv X.K X.m H2 di x ∧ Rv X.K X.m H2 dv y ∧
  ∀ xs', (∃ h, NestF X.prog X.w p xs' h) → Paired (RN X.K X.m H2) (putN [] k di dv) xs' → Q (.ref p) (upd H2 p (NestO X.prog X.w p xs'))
theorem pe_dispN {ke ve : Expr} {tk tv : TE} (hu : X.A.units + 64 < cLine) (hk : PE X ke tk) (hv : PE X ve tv) : PE X (.Dict [some ke] [ve] pos) (tDispN X tk tv) := by
  refine ⟨fun pins s σ H Q I q => ?_⟩
  have hn := I.hok.fresh (Nat.le_refl s.heap.objs.size)
  have I1 := I.laid (a := s.heap.objs.size) (o := NestO X.prog X.w s.heap.objs.size []) (h' := s.heap.push { cls := .type "dict", data := .dict #[] }) (t' := s.toks) (fun _ _ q => Heap.get?_push_of_some _ q) (Nat.le_refl _) (nest_ok (nest_empty (H := H) s.heap I.big))
  have q1 := q _ hn ⟨_, nest_empty (H := H) s.heap I.big⟩
  rw [arm_eval_Dict, zip_pairTrees [some ke] [ve] X.env pos rfl rfl, dictDisplay_pairs (pairTrees [some ke] [ve] X.env pos) (by simp [pairTrees]) (by simp [pairTrees])]
  refine wpAny_bind (wpAny_standAt (wpAny_bind (wpAny_subDictH (knd := nestedKind X.prog X.w) (Q := fun d s' => wpAny (model X.prog X.w) X.A (pure (Value.ref d)) (EP X pins σ Q) X.xe s') (show X.A.units + 8 < cLine by omega) (by simp [pairTrees]) ?_)))
  refine pairTrees_cons_walk (thn (hk.run pins _ σ _ _ I1 q1) fun u s1 ⟨x, H1, I1, rx, q1⟩ => thn (hv.run pins s1 σ H1 _ I1 q1) fun w2 s2 ⟨y, H2, I2, ry, G, di, dv, k, b, rg, e, hk, hd, ex, r, rd, q2⟩ => pairTrees_nil_walk ?_)
  subst ex
  obtain rfl : u = Value.ref b := rx
  obtain ⟨xs, h1, h2, h3, h4, h5⟩ := dn_own I2 rg e
  cases h2
  refine ⟨[(k, b, w2)], ⟨rfl, rfl, ⟨rv_nest I2 hk r rfl, hd⟩, True.intro⟩, h3, fun h' tk dd' hs => ?_⟩
  obtain ⟨o', es, ep, g1, g2, g3, g4, g5, g6⟩ := dd'
  have hf : NestF X.prog X.w s.heap.objs.size (storedH [] k b w2) h' := ⟨o', es, ep, g1, g2, g3, g4, g6, h4⟩
  refine wpAny_pure ⟨.ref s.heap.objs.size, _, d_write (t' := _) I2 (by rw [h1]; exact nest_mut) hs ⟨o', g1⟩ (nest_ok hf), rfl, q2 _ ⟨h', hf⟩ (rn_put hk hd r rd ry .nil)⟩
def dDispN (tk tv : TD) : TD := fun env G Q => ∀ p, G p = none → tk env (up G p (.dn [])) fun x G1 => tv env G1 fun y G2 => G2 p = some (.dn []) ∧ ∃ l k, x = .tup l ∧ nk x = some k ∧ k.depth ≤ 8 ∧ Q (.ref p) (up G2 p (.dn [(k, x, y)]))
theorem de_dispN {ke ve : Expr} {tk tv : TD} (hu : X.A.units + 64 < cLine) (hk : DE X ke tk) (hv : DE X ve tv) : DE X (.Dict [some ke] [ve] pos) (dDispN tk tv) :=
  de_of (pe_dispN hu hk hv) fun σ H env G Q Qv rs rg h kk p np hf => by
    have ex : RO X.K X.m (upd H p (NestO X.prog X.w p [])) p (.dn []) := ⟨[], upd_same, hf, .nil, Nat.zero_le _⟩
    have rg0 := rg.newS np ex
    have f0 : Fr G (up G p (.dn [])) H (upd H p (NestO X.prog X.w p [])) := Fr.newS np
    refine ⟨env, _, _, rs.mono (f0.keep rg), rg0, h p (rg.fresh np), fun x G1 v H1 q r rg1 f1 => ⟨env, G1, _, (rs.mono (f0.keep rg)).mono (f1.keep rg0), rg1, q, fun y G2 u H2 ⟨e2, l, k, ex, hk, hd, q2⟩ r2 rg2 f2 => ?_⟩⟩
    have r' := r.mono (f2.keep rg1)
    have rt := r'
    rw [ex] at rt
    obtain ⟨b, vs, eb, _⟩ := rv_tup_inv rt
    refine ⟨G2, x, y, k, b, rg2, e2, hk, hd, eb, r', r2, fun xs' hf' hp => ?_⟩
    have e0 : putN [] k x y = [(k, x, y)] := rfl
    rw [e0] at hp
    exact kk _ _ _ _ q2 rv_ref (rg2.put e2 ⟨xs', upd_same, hf', Paired.mapP hp fun _ _ z => z.mono (keep_put rg2 e2), by rw [sizeLine_eq]; show 1 ≤ 16777216; decide⟩) (f0.trans (f1.trans (f2.trans (Fr.put e2))))
end
end DL
end
section
set_option Elab.async false
set_option linter.all false
set_option maxRecDepth 100000
set_option maxHeartbeats 4000000
/-! t[::-1] of a tuple. -/
namespace HT
open PySem PySem.Spec PyProof.Rows
theorem pick_all {α : Type} : ∀ (l : List α) (f : Nat → Option α), (∀ m, m < l.length → f m = l[m]?) → (List.range l.length).filterMap f = l
  | [], _, _ => rfl
  | a :: l, f, h => by
    rw [List.length_cons, List.range_succ_eq_map, List.filterMap_cons]
    have h0 : f 0 = some a := h 0 (Nat.succ_pos _)
    rw [h0]
    show a :: _ = a :: l
    congr 1
    rw [List.filterMap_map]
    exact pick_all l _ fun m hm => h (m + 1) (Nat.succ_lt_succ hm)
theorem pick_back (xs : Array Value) : ((List.range xs.size).filterMap fun (m : Nat) => xs[(((xs.size : Int) - 1) + (m : Int) * (-1)).toNat]?).toArray = xs.toList.reverse.toArray := by
  have hl : xs.size = xs.toList.reverse.length := by simp
  congr 1
  rw [hl]
  refine pick_all _ _ fun m hm => ?_
  rw [List.length_reverse, Array.length_toList] at hm
  rw [List.getElem?_reverse (by simpa using hm)]
  simp only [List.length_reverse, Array.length_toList]
  rw [Array.getElem?_toList]
  congr 1
  omega
section
variable {prog : Program} {w : World} {A : Around} {E : Value → Shared → Prop} {s : Shared}
theorem sliceApplied_back {sl : Addr} {vl vu vs : Value} {n : Nat} {Q : Int × Int × Nat → Shared → Prop} (hs : s.heap.IsSliceOf sl vl vu vs) (pl : IsPart vl none) (pu : IsPart vu none) (ps : IsPart vs (some (-1)))
    (h : Q ((n : Int) - 1, -1, n) s) : wpAny (model prog w) A (Builtin.Slice.sliceApplied (.ref sl) (pure (n : Int))) Q E s := by
  obtain ⟨os, hos, hcs, hds⟩ := id hs
  unfold Builtin.Slice.sliceApplied Builtin.Slice.sliceFields
  refine wpAny_bind (wpAny_bind (wpAny_field hos hds (x := vl) rfl (wpAny_bind (wpAny_field hos hds (x := vu) rfl (wpAny_bind (wpAny_field hos hds (x := vs) rfl (wpAny_pure ?_)))))))
  refine wpAny_bind (slicePart_ ps ?_)
  show wpAny _ _ (if ((-1 : Int) == 0) = true then _ else _) _ _ s
  rw [if_neg (by decide)]
  refine wpAny_bind (slicePart_ pl (wpAny_bind (slicePart_ pu (wpAny_bind (wpAny_pure ?_)))))
  have e1 : Builtin.Slice.sliceAdjust none none (-1) (n : Int) = ((n : Int) - 1, -1) := by
    unfold Builtin.Slice.sliceAdjust
    simp
  have e2 : Builtin.Slice.slicePlaces ((n : Int) - 1) (-1) (-1) = n := by
    unfold Builtin.Slice.slicePlaces
    simp
    omega
  show wpAny _ _ (match Builtin.Slice.sliceAdjust none none (-1) (n : Int) with | (lo, hi) => pure (lo, (-1 : Int), Builtin.Slice.slicePlaces lo hi (-1))) _ _ s
  rw [e1]
  show wpAny _ _ (pure ((n : Int) - 1, (-1 : Int), Builtin.Slice.slicePlaces ((n : Int) - 1) (-1) (-1))) _ _ s
  rw [e2]
  exact wpAny_pure h
theorem getItem_tuple_back {t sl : Addr} {items : Array Value} {vl vu vs : Value} {Q : Value → Shared → Prop} (ht : IsTup s.heap t items) (hs : s.heap.IsSliceOf sl vl vu vs) (pl : IsPart vl none) (pu : IsPart vu none) (ps : IsPart vs (some (-1)))
    (h : Q (.ref s.heap.objs.size) { s with heap := s.heap.push { cls := .type "tuple", data := .seq items.toList.reverse.toArray } })
    (hsz : items.size ≤ sizeLine) : wpAny (model prog w) A (getItem (.ref t) (.ref sl)) Q E s := by
  have htake : sizeOk (.seq items.toList.reverse.toArray) := by
    show items.toList.reverse.toArray.size ≤ sizeLine
    simpa using hsz
  obtain ⟨os, hos, hcs, hds⟩ := id hs
  have hTs : s.TypeIs (.ref sl) "slice" := ⟨os, hos, hcs⟩
  unfold getItem
  try with_reducible refine wpAny_holding ?_
  first | refine wpAny_bind (wpAny_pure ?_) | skip
  refine wpAny_bind (wpAny_sequenceKey ht.typeIs (by decide) ?_)
  refine wpAny_bind (wpAny_callSpecial?_slot (name := Str.ofString "__getitem__") ht.typeIs PyProof.Rows.slot_tuple_getitem
    (wpAny_call_entry PyProof.Rows.slot_tuple_getitem ht.typeIs entry_tuple_getitem ?_ (args_tuple_getitem _ _)))
  show wpAny _ _ (Builtin.Tuple.tupleItemsOf (.ref t) >>= _) _ _ s
  refine wpAny_bind (tupleItemsOf_ ht ?_)
  refine wpAny_bind (wpAny_typeOf hTs ?_)
  rw [if_pos (by decide)]
  refine wpAny_bind (sliceApplied_back hs pl pu ps ?_)
  have hno : ¬ ((((items.size : Int) - 1) == 0 && (-1 : Int) == 1 && items.size == items.size) = true) := by simp
  show wpAny _ _ (if (((items.size : Int) - 1) == 0 && (-1 : Int) == 1 && items.size == items.size) = true then _ else _) _ _ s
  rw [if_neg hno, pick_back]
  first
    | exact wpAny_bind (m := Builtin.Tuple.tupleExact _) (wpAny_newObj_type (wpAny_pure ⟨_, rfl, wpAny_pure h⟩) htake)
    | exact wpAny_bind (m := Builtin.Tuple.tupleExact _) (wpAny_newObj_type (wpAny_bind (wpAny_pure (wpAny_pure ⟨_, rfl, wpAny_pure h⟩))) htake)
    | exact wpAny_bind (wpAny_bind (m := Builtin.Tuple.tupleExact _) (wpAny_newObj_type (wpAny_pure (wpAny_pure ⟨_, rfl, wpAny_pure h⟩)) htake))
    | exact wpAny_bind (wpAny_bind (m := Builtin.Tuple.tupleExact _) (wpAny_newObj_type (wpAny_pure ⟨_, rfl, wpAny_pure h⟩) htake))
end
end HT
namespace DL
open PySem PySem.Spec PyProof.Rows L2
section
variable {X : Cx}
def tRevT (K : PySem.W.Frag) (te : TE) : TE := fun σ H Q => te σ H fun x H1 => ∃ a xs, x = .ref a ∧ SqT K H1 a xs ∧ ∀ p, H1 p = none → Q (.ref p) (upd H1 p (.tup xs.reverse))
theorem pe_revT {e : Expr} {te : TE} {k : Nat} {p1 p2 p3 pos : Pos} (he : PE X e te) : PE X (.Subscript e (.Slice none none (some (.UnaryOp .USub (.Constant (.int 1) k p1) p2)) p3) pos) (tRevT X.K te) := by
  refine ⟨fun pins s σ H Q I h => ?_⟩
  refine Subscript_ (thn (he.run pins s σ H _ I h) fun v s1 ⟨x, H1, I1, r1, q1⟩ => ?_)
  obtain ⟨a, xs, ex, hx, q⟩ := q1
  subst ex
  cases r1
  have hst : PO X (some (.UnaryOp .USub (.Constant (.int 1) k p1) p2)) (tPart (tUn (rU fun i => .int (-i)) (tC (.int 1)))) := po_some (pe_un un_neg pe_int)
  refine wpAny_Slice (thn (po_none.run pins s1 σ H1 (fun o H2 => o = none ∧ H2 = H1) I1 ⟨rfl, rfl⟩) fun vl s2 ⟨l, H2, I2, pl, el, e2⟩ => ?_)
  subst el e2
  refine thn (po_none.run pins s2 σ H2 (fun o H3 => o = none ∧ H3 = H2) I2 ⟨rfl, rfl⟩) fun vu s3 ⟨u, H3, I3, pu, eu, e3⟩ => ?_
  subst eu e3
  refine thn (hst.run pins s3 σ H3 (fun o H4 => o = some (-1) ∧ H4 = H3) I3 ⟨1, rfl, -1, rfl, rfl, rfl⟩) fun vs s4 ⟨o, H4, I4, ps, eo, e4⟩ => ?_
  subst eo e4
  have I5 : Inv X pins σ H4 { s4 with heap := s4.heap.push { cls := .type "slice", data := .fields #[vl, vu, vs] } } := I4.kept (t' := s4.toks) fun b ob q => Heap.get?_push_of_some _ q
  obtain ⟨its, r, ht, hz⟩ := I5.tuple hx
  have hlen := r.length
  show wpAny (model X.prog X.w) X.A (subscriptTail e (.Slice none none (some (.UnaryOp .USub (.Constant (.int 1) k p1) p2)) p3) (.ref a) (.ref s4.heap.objs.size)) (EP X pins σ Q) X.xe { s4 with heap := s4.heap.push { cls := .type "slice", data := .fields #[vl, vu, vs] } }
  refine tail_any (ops := [.ref a, .ref s4.heap.objs.size]) ht.typeIs (PyProof.Rows.slot_tuple_getitem.lookup) ?_ (by with_unfolding_all rfl)
  refine HT.getItem_tuple_back ht (Heap.IsSliceOf.new _ vl vu vs) pl pu ps ?_ (by rw [List.size_toArray]; omega)
  refine ⟨.ref _, _, I5.laid (t' := s4.toks) (o := .tup xs.reverse) (fun b ob q => Heap.get?_push_of_some _ q) (Nat.le_refl _) ?_, rfl, q _ (I5.hok.fresh (Nat.le_refl _))⟩
  exact ⟨by rw [List.length_reverse]; exact hz, _, r.reverse, IsTup.new _ _⟩
/-- xs[::-1] of a list or a tuple -/
def dRev (ta : TD) : TD := fun env G Q => ta env G fun x G1 => ∃ l, x = .tup l ∧ Q (.tup l.reverse) G1
theorem de_revT {a : Expr} {ta : TD} {k : Nat} {p1 p2 p3 pos : Pos} (ha : DE X a ta) : DE X (.Subscript a (.Slice none none (some (.UnaryOp .USub (.Constant (.int 1) k p1) p2)) p3) pos) (dRev ta) :=
  de_of (pe_revT ha) fun σ H env G Q Qv rs rg h k => ⟨env, G, _, rs, rg, h, fun x G1 v H1 ⟨l, e, q⟩ r rg1 f => by
    subst e
    obtain ⟨a, vs, rfl, h1, h2, h3⟩ := rv_tup_inv r
    exact ⟨_, vs, rfl, h1, fun p np => k _ _ _ _ q (rv_tup (.inl (.inl upd_same)) (h2.mono (keep_new np)).reverse (by rw [List.length_reverse]; exact h3)) (rg1.new np) (f.trans (Fr.new np))⟩⟩
end
end DL
end
section
set_option Elab.async false
set_option linter.all false
set_option maxRecDepth 100000
set_option maxHeartbeats 4000000
/-! list(zip(x, y)), x and y lists or tuples. -/
namespace PySem.W
open PySem PySem.Calls PyProof.Rows PyProof.V PySem.Spec
theorem zl_no_len : typeLookup (.type "zip") "__len__" = pure none := am_miss_of_fast (by decide +kernel)
theorem zl_no_hint : typeLookup (.type "zip") "__length_hint__" = pure none := am_miss_of_fast (by decide +kernel)
section
variable {prog : Program} {w : World} {A : Around} {E : Value → Shared → Prop} {s : Shared} {z TI TO i1 i2 T : Addr} {fp1 fp2 : List Addr} {n1 n2 i : Nat} {P1 P2 : Nat → Value → Prop} {St1 St2 : Nat → Heap → Prop} {f : Bool} {oT : Obj}
theorem zl_next_item {Q : Value → Shared → Prop} (S : ZipSep2 z TI TO i1 i2 fp1 fp2) (D1 : Draws prog w A i1 fp1 n1 P1 St1) (D2 : Draws prog w A i2 fp2 n2 P2 St2)
    (hz : IsZipHeld s.heap z TI TO T f) (hT : s.heap.get? T = some oT) (hTI : IsTupOf2 s.heap TI (.ref i1) (.ref i2)) (st1 : St1 i s.heap) (st2 : St2 i s.heap) (hlt1 : i < n1) (hlt2 : i < n2)
    (hQ : ∀ x1 x2 h' tk, P1 i x1 → P2 i x2 → IsZipHeld h' z TI TO T true → St1 (i + 1) h' → St2 (i + 1) h' → IsTupOf2 h' s.heap.objs.size x1 x2 → h'.objs.size = s.heap.objs.size + 1 →
      (∀ c o, c ≠ z → c ≠ i1 → c ≠ i2 → s.heap.get? c = some o → h'.get? c = some o) → Q (.ref s.heap.objs.size) { s with heap := h', toks := tk }) :
    wpAny (model prog w) A (Builtin.«zip.__next__» ⟨[.ref z], []⟩) (fun fin s' => ∃ v, fin = .done (.ret v) ∧ Q v s') E s := by
  obtain ⟨hp, g, d, tk0, os⟩ := s
  show wpAny _ _ (field (.ref z) 2 >>= _) _ _ _
  refine wpAny_bind (wpAny_field hz rfl (x := .bool false) rfl ?_)
  show wpAny _ _ (field (.ref z) 3 >>= _) _ _ _
  refine wpAny_bind (wpAny_field hz rfl (x := .ref TI) rfl ?_)
  refine wpAny_bind (wpAny_seqItems hTI rfl ?_)
  show wpAny _ _ (Builtin.SmallTypes.ownedTupleIsFree (.ref z) >>= _) _ _ _
  refine wpAny_bind (wpAny_tupleHeld_zip hz hT fun h1 hz1 hs1 => ?_)
  replace hs1 : Heap.SameBut z hp h1 := hs1
  simp only [Bool.false_eq_true, if_false]
  refine wpAny_bind ?_
  rw [← Array.forIn_toList]
  simp only [List.forIn_cons, List.forIn_nil]
  refine wpAny_bind (wpAny_bind (wpAny_holding ?_))
  show wpAny _ _ (Builtin.SmallTypes.nextOf (.ref i1) >>= _) _ _ ⟨h1, g, d, tk0, os⟩
  refine wpAny_bind (D1.item i _ _ _ hlt1 (D1.over st1 hs1 S.zf1) fun x1 p1 tk1 hx1 sn1 hp1 => wpAny_pure ?_)
  replace hp1 : Heap.SameBut i1 h1 p1 := hp1
  refine wpAny_pure ?_
  refine wpAny_bind (wpAny_bind (wpAny_holding ?_))
  show wpAny _ _ (Builtin.SmallTypes.nextOf (.ref i2) >>= _) _ _ ⟨p1, g, d, tk1, os⟩
  refine wpAny_bind (D2.item i _ _ _ hlt2 (D2.over (D2.over st2 hs1 S.zf2) hp1 S.sep1_2) fun x2 p2 tk2 hx2 sn2 hp2 => wpAny_pure ?_)
  replace hp2 : Heap.SameBut i2 p1 p2 := hp2
  refine wpAny_pure (wpAny_pure ?_)
  show wpAny _ _ (newTuple [x1, x2] >>= _) _ _ _
  refine wpAny_bind (wpAny_newTuple ?_)
  have hsz : p2.objs.size = hp.objs.size := by rw [hp2.1, hp1.1, hs1.1]
  have hz3 : IsZipHeld p2 z TI TO T true := hp2.extBut _ _ S.zi2 (hp1.extBut _ _ S.zi1 hz1)
  have hk : ∀ c o, c ≠ z → c ≠ i1 → c ≠ i2 → hp.get? c = some o → p2.get? c = some o := fun c o c1 c2 c3 e => hp2.extBut _ _ c3 (hp1.extBut _ _ c2 (hs1.extBut _ _ c1 e))
  have j1 : St1 (i + 1) p2 := D1.over sn1 hp2 S.sep2_1
  refine wpAny_pure ⟨_, rfl, ?_⟩
  show Q (.ref p2.objs.size) _
  have hpt : IsTupOf2 (p2.push { cls := .type "tuple", data := .seq #[x1, x2] }) p2.objs.size x1 x2 := Heap.get?_push_size _ rfl
  have hz4 : (p2.push { cls := .type "tuple", data := .seq #[x1, x2] }).objs.size = p2.objs.size + 1 := Heap.size_push ..
  rw [hsz] at hpt hz4 ⊢
  exact hQ x1 x2 _ tk2 hx1 hx2 (Heap.get?_push_of_some _ hz3) (D1.frame _ _ _ j1 fun b _ o e => Heap.get?_push_of_some _ e) (D2.frame _ _ _ sn2 fun b _ o e => Heap.get?_push_of_some _ e) hpt hz4 fun c o c1 c2 c3 e => Heap.get?_push_of_some _ (hk c o c1 c2 c3 e)
theorem zl_next_end {Q : Fin → Shared → Prop} (S : ZipSep2 z TI TO i1 i2 fp1 fp2) (D1 : Draws prog w A i1 fp1 n1 P1 St1) (D2 : Draws prog w A i2 fp2 n2 P2 St2)
    (hz : IsZipHeld s.heap z TI TO T f) (hT : s.heap.get? T = some oT) (hTI : IsTupOf2 s.heap TI (.ref i1) (.ref i2)) (st1 : St1 i s.heap) (st2 : St2 i s.heap) (hle1 : i ≤ n1) (hle2 : i ≤ n2) (hend : i = n1 ∨ i = n2)
    (hE : ∀ h' tk e, (∀ c o, c ≠ z → c ≠ i1 → c ≠ i2 → s.heap.get? c = some o → h'.get? c = some o) → (∃ o, h'.get? e = some o ∧ o.cls = .type "StopIteration") → E (.ref e) { s with heap := h', toks := tk }) :
    wpAny (model prog w) A (Builtin.«zip.__next__» ⟨[.ref z], []⟩) Q E s := by
  obtain ⟨hp, g, d, tk0, os⟩ := s
  show wpAny _ _ (field (.ref z) 2 >>= _) _ _ _
  refine wpAny_bind (wpAny_field hz rfl (x := .bool false) rfl ?_)
  show wpAny _ _ (field (.ref z) 3 >>= _) _ _ _
  refine wpAny_bind (wpAny_field hz rfl (x := .ref TI) rfl ?_)
  refine wpAny_bind (wpAny_seqItems hTI rfl ?_)
  show wpAny _ _ (Builtin.SmallTypes.ownedTupleIsFree (.ref z) >>= _) _ _ _
  refine wpAny_bind (wpAny_tupleHeld_zip hz hT fun h1 hz1 hs1 => ?_)
  replace hs1 : Heap.SameBut z hp h1 := hs1
  simp only [Bool.false_eq_true, if_false]
  refine wpAny_bind ?_
  rw [← Array.forIn_toList]
  simp only [List.forIn_cons, List.forIn_nil]
  refine wpAny_bind (wpAny_bind (wpAny_holding ?_))
  show wpAny _ _ (Builtin.SmallTypes.nextOf (.ref i1) >>= _) _ _ ⟨h1, g, d, tk0, os⟩
  by_cases hlt1 : i < n1
  · refine wpAny_bind (D1.item i _ _ _ hlt1 (D1.over st1 hs1 S.zf1) fun x1 p1 tk1 hx1 sn1 hp1 => wpAny_pure ?_)
    replace hp1 : Heap.SameBut i1 h1 p1 := hp1
    refine wpAny_pure ?_
    have hi2 : i = n2 := by omega
    refine wpAny_bind (wpAny_bind (wpAny_holding ?_))
    show wpAny _ _ (Builtin.SmallTypes.nextOf (.ref i2) >>= _) _ _ ⟨p1, g, d, tk1, os⟩
    refine wpAny_bind (D2.done ⟨p1, g, d, tk1, os⟩ _ _ (by rw [← hi2]; exact (D2.over (D2.over st2 hs1 S.zf2) hp1 S.sep1_2)) fun q e hq he => ?_)
    replace hq : Heap.ExtBut i2 p1 q := hq
    exact hE q tk1 e (fun c o c1 c2 c3 x => hq _ _ c3 (hp1.extBut _ _ c2 (hs1.extBut _ _ c1 x))) he
  · have hi1 : i = n1 := by omega
    refine wpAny_bind (D1.done ⟨h1, g, d, tk0, os⟩ _ _ (by rw [← hi1]; exact (D1.over st1 hs1 S.zf1)) fun q e hq he => ?_)
    replace hq : Heap.ExtBut i1 h1 q := hq
    exact hE q tk0 e (fun c o c1 c2 c3 x => hq _ _ c2 (hs1.extBut _ _ c1 x)) he
/-- a zip's state before its turn i; the last tuple is out -/
structure ZlSt (z TI TO i1 i2 : Addr) (fp1 fp2 : List Addr) (St1 St2 : Nat → Heap → Prop) (S : Addr) (h : Heap) (i : Nat) : Prop where
  z : IsZip h z TI TO .none ∨ ∃ T f oT, IsZipHeld h z TI TO T f ∧ h.get? T = some oT ∧ T ≠ z ∧ T ≠ i1 ∧ T ≠ i2 ∧ T ≠ S
  ti : IsTupOf2 h TI (.ref i1) (.ref i2)
  to : ∃ a1 a2, IsTupOf2 h TO a1 a2
  s1 : St1 i h
  s2 : St2 i h
theorem zl_item {S : Addr} {Q : Option Value → Shared → Prop} (Sp : ZipSep2 z TI TO i1 i2 fp1 fp2) (D1 : Draws prog w A.in1 i1 fp1 n1 P1 St1) (D2 : Draws prog w A.in1 i2 fp2 n2 P2 St2) (hS : S < s.heap.objs.size)
    (hst : ZlSt z TI TO i1 i2 fp1 fp2 St1 St2 S s.heap i) (hlt1 : i < n1) (hlt2 : i < n2)
    (hQ : ∀ x1 x2 h' tk, P1 i x1 → P2 i x2 → ZlSt z TI TO i1 i2 fp1 fp2 St1 St2 S h' (i + 1) → IsTupOf2 h' s.heap.objs.size x1 x2 → h'.objs.size = s.heap.objs.size + 1 →
      (∀ c o, c ≠ z → c ≠ TO → c ≠ i1 → c ≠ i2 → s.heap.get? c = some o → h'.get? c = some o) → Q (some (.ref s.heap.objs.size)) { s with heap := h', toks := tk }) :
    wpAny (model prog w) A (pyNext (.ref z)) Q E s := by
  obtain ⟨hz, hTI, ⟨a1, a2, hTO⟩, st1, st2⟩ := hst
  have lt : ∀ {c o}, s.heap.get? c = some o → s.heap.objs.size ≠ c := fun e => Nat.ne_of_gt (Heap.lt_size e)
  have l1 : s.heap.objs.size ≠ i1 := by obtain ⟨_, e⟩ := D1.live _ _ st1; exact lt e
  have l2 : s.heap.objs.size ≠ i2 := by obtain ⟨_, e⟩ := D2.live _ _ st2; exact lt e
  rcases hz with hz | ⟨T, f, oT, hz, hT, t1, t2, t3, t4⟩
  · refine wpAny_pyNext_zipD2_item Sp D1 D2 hz hTI hTO st1 st2 hlt1 hlt2 fun x1 x2 h' tk y1 y2 b1 b2 d1 d2 b5 b6 hk => ?_
    exact hQ x1 x2 h' tk y1 y2 ⟨.inr ⟨_, false, _, b1, b5, lt hz, l1, l2, Nat.ne_of_gt hS⟩, hk _ _ Sp.TIz Sp.TITO Sp.TIi1 Sp.TIi2 hTI, ⟨_, _, b2⟩, d1, d2⟩ b5 b6 hk
  · have hTy : s.TypeIs (.ref z) "zip" := ⟨_, hz, rfl⟩
    unfold pyNext
    refine wpAny_bind (wpAny_attempt (wpAny_callSpecial?_slot (name := Str.ofString "__next__") hTy F.slot_zip_next
      (wpAny_call_entry F.slot_zip_next hTy F.entry_zip_next
        (zl_next_item Sp D1 D2 hz hT hTI st1 st2 hlt1 hlt2 fun x1 x2 h' tk y1 y2 b1 d1 d2 b5 b6 hk => wpAny_pure (hQ x1 x2 h' tk y1 y2 ?_ b5 b6 fun c o c1 _ c3 c4 e => hk c o c1 c3 c4 e)) (F.args_zip_next_1 _))))
    exact ⟨.inr ⟨T, true, oT, b1, hk _ _ t1 t2 t3 hT, t1, t2, t3, t4⟩, hk _ _ Sp.TIz Sp.TIi1 Sp.TIi2 hTI, ⟨_, _, hk _ _ Sp.TOz Sp.Ti1 Sp.Ti2 hTO⟩, d1, d2⟩
theorem zl_done {S : Addr} {Q : Option Value → Shared → Prop} (Sp : ZipSep2 z TI TO i1 i2 fp1 fp2) (D1 : Draws prog w A.in1 i1 fp1 n1 P1 St1) (D2 : Draws prog w A.in1 i2 fp2 n2 P2 St2)
    (hst : ZlSt z TI TO i1 i2 fp1 fp2 St1 St2 S s.heap i) (hle1 : i ≤ n1) (hle2 : i ≤ n2) (hend : i = n1 ∨ i = n2)
    (hQ : ∀ h' tk, (∀ c o, c ≠ z → c ≠ TO → c ≠ i1 → c ≠ i2 → s.heap.get? c = some o → h'.get? c = some o) → Q none { s with heap := h', toks := tk }) :
    wpAny (model prog w) A (pyNext (.ref z)) Q E s := by
  obtain ⟨hz, hTI, ⟨a1, a2, hTO⟩, st1, st2⟩ := hst
  rcases hz with hz | ⟨T, f, oT, hz, hT, t1, t2, t3, t4⟩
  · exact wpAny_pyNext_zipD2_end Sp D1 D2 hz hTI hTO st1 st2 hle1 hle2 hend hQ
  · have hTy : s.TypeIs (.ref z) "zip" := ⟨_, hz, rfl⟩
    unfold pyNext
    refine wpAny_bind (wpAny_attempt (wpAny_callSpecial?_slot (name := Str.ofString "__next__") hTy F.slot_zip_next
      (wpAny_call_entry F.slot_zip_next hTy F.entry_zip_next (zl_next_end Sp D1 D2 hz hT hTI st1 st2 hle1 hle2 hend fun h' tk e hk he => ?_) (F.args_zip_next_1 _))))
    obtain ⟨o, ho, hc⟩ := he
    refine wpAny_bind (wpAny_isInstance (T := "StopIteration") (b := true) ⟨o, ho, hc⟩ isSubtype_stop ?_)
    exact wpAny_pure (hQ _ _ fun c o c1 _ c3 c4 e => hk c o c1 c3 c4 e)
end
end PySem.W
end
section
set_option Elab.async false
set_option linter.all false
set_option maxRecDepth 100000
set_option maxHeartbeats 4000000
/-! list(zip(x, y)): the loop, the call. -/
namespace PySem.W
open PySem PySem.Calls PyProof.Rows PyProof.V PySem.Spec
structure ZlG (P1 P2 : Nat → Value → Prop) (lo : Addr) (h : Heap) (as : List Addr) : Prop where
  rise : as.Pairwise (· < ·)
  above : ∀ a ∈ as, lo < a
  pairs : ∀ (j : Nat) (a : Addr), as[j]? = some a → ∃ x y, P1 j x ∧ P2 j y ∧ IsTupOf2 h a x y
section
variable {prog : Program} {w : World} {A : Around} {E : Value → Shared → Prop} {s : Shared} {R : Result → Shared → Prop} {z TI TO i1 i2 : Addr} {fp1 fp2 : List Addr} {n1 n2 : Nat} {P1 P2 : Nat → Value → Prop} {St1 St2 : Nat → Heap → Prop}
theorem ZlSt.keep {S : Addr} {h h' : Heap} {i : Nat} (Sp : ZipSep2 z TI TO i1 i2 fp1 fp2) (D1 : Draws prog w A i1 fp1 n1 P1 St1) (D2 : Draws prog w A i2 fp2 n2 P2 St2) (st : ZlSt z TI TO i1 i2 fp1 fp2 St1 St2 S h i)
    (k : ∀ b o, b ≠ S → h.get? b = some o → h'.get? b = some o) (hz : S ≠ z) (hTI : S ≠ TI) (hTO : S ≠ TO) (h1 : S ∉ fp1) (h2 : S ∉ fp2) : ZlSt z TI TO i1 i2 fp1 fp2 St1 St2 S h' i := by
  obtain ⟨z0, ti, ⟨a1, a2, to⟩, s1, s2⟩ := st
  refine ⟨?_, k _ _ hTI.symm ti, ⟨a1, a2, k _ _ hTO.symm to⟩, D1.frame _ _ _ s1 fun b hb o e => k b o (fun q => h1 (q ▸ hb)) e, D2.frame _ _ _ s2 fun b hb o e => k b o (fun q => h2 (q ▸ hb)) e⟩
  rcases z0 with z0 | ⟨T, f, oT, z0, hT, t1, t2, t3, t4⟩
  · exact .inl (k _ _ hz.symm z0)
  · exact .inr ⟨T, f, oT, k _ _ hz.symm z0, k _ _ t4 hT, t1, t2, t3, t4⟩
theorem zl_loop {S : Addr} {lo : Addr} (Sp : ZipSep2 z TI TO i1 i2 fp1 fp2) (D1 : Draws prog w A.in1.in1 i1 fp1 n1 P1 St1) (D2 : Draws prog w A.in1.in1 i2 fp2 n2 P2 St2) (hz : S ≠ z) (hTI : S ≠ TI) (hTO : S ≠ TO) (h1f : S ∉ fp1) (h2f : S ∉ fp2)
    (hlo : z ≤ lo ∧ TO ≤ lo ∧ i1 ≤ lo ∧ i2 ≤ lo ∧ S ≤ lo) (hn : min n1 n2 ≤ sizeLine) (res : Value) {h₁ : Heap}
    (hR : ∀ h' tk acc c as, (∀ b o, b ≠ S → b ≠ z → b ≠ TO → b ≠ i1 → b ≠ i2 → h₁.get? b = some o → h'.get? b = some o) → h'.get? S = some { cls := .type "list", dict := none, data := .seq acc c, slots := #[] } → as.length = min n1 n2 → ZlG P1 P2 lo h' as →
      acc.toList = as.map Value.ref → R (.ok (.ret res)) { s with heap := h', toks := tk }) :
    ∀ (k i : Nat) (h : Heap) (tk c : Nat) (acc : Array Value) (as : List Addr), min n1 n2 - i = k → i ≤ min n1 n2 → ZlSt z TI TO i1 i2 fp1 fp2 St1 St2 S h i → (∀ b o, b ≠ S → b ≠ z → b ≠ TO → b ≠ i1 → b ≠ i2 → h₁.get? b = some o → h.get? b = some o) →
      h.get? S = some { cls := .type "list", dict := none, data := .seq acc c, slots := #[] } → acc.toList = as.map Value.ref → as.length = i → ZlG P1 P2 lo h as → lo < h.objs.size →
      codeAny (model prog w) A (.builtin "list.extend.loop" ⟨[.ref S, .ref z, res], []⟩) R { s with heap := h, toks := tk } := by
  obtain ⟨lz, lTO, l1, l2, lS⟩ := hlo
  have ne : ∀ {a b : Addr}, a ≤ lo → lo < b → b ≠ a := fun h1 h2 => Nat.ne_of_gt (Nat.lt_of_le_of_lt h1 h2)
  have keepG : ∀ {h h' : Heap} {as : List Addr}, (∀ b o, lo < b → h.get? b = some o → h'.get? b = some o) → ZlG P1 P2 lo h as → ZlG P1 P2 lo h' as := fun k g => ⟨g.rise, g.above, fun j a hj => by
    obtain ⟨x, y, q1, q2, q3⟩ := g.pairs j a hj
    exact ⟨x, y, q1, q2, k a _ (g.above a (List.mem_of_getElem? hj)) q3⟩⟩
  intro k
  induction k with
  | zero =>
    intro i h tk c acc as hk hi hst hkeep hS hacc hal hG hIs
    refine codeAny_builtin PySem.F.entry_extend_loop ?_
    rw [Around.under_plainId PySem.F.plain_extend_loop _]
    show wpAny _ A.in1 (pyNext (.ref z) >>= _) _ _ _
    refine wpAny_bind (zl_done (s := { s with heap := h, toks := tk }) (A := A.in1) Sp D1 D2 hst (by omega) (by omega) (by omega) fun h' tk' he => ?_)
    refine wpAny_pure (hR h' tk' acc c as (fun b o b1 b2 b3 b4 b5 e => he b o b2 b3 b4 b5 (hkeep b o b1 b2 b3 b4 b5 e)) (he S _ hz hTO (fun q => h1f (q ▸ Sp.mem1)) (fun q => h2f (q ▸ Sp.mem2)) hS) (by omega) (keepG (fun b o hb e => he b o (ne lz hb) (ne lTO hb) (ne l1 hb) (ne l2 hb) e) hG) hacc)
  | succ k ih =>
    intro i h tk c acc as hk hi hst hkeep hS hacc hal hG hIs
    have hsz : acc.size = i := by rw [← Array.length_toList, hacc, List.length_map, hal]
    refine codeAny_builtin PySem.F.entry_extend_loop ?_
    rw [Around.under_plainId PySem.F.plain_extend_loop _]
    show wpAny _ A.in1 (pyNext (.ref z) >>= _) _ _ _
    refine wpAny_bind (zl_item (s := { s with heap := h, toks := tk }) (S := S) (A := A.in1) Sp D1 D2 (Heap.lt_size hS) hst (by omega) (by omega) fun x y h' tk' hx hy hst' ht hz' hkp => ?_)
    dsimp only at ht hz' hkp ⊢
    have hS' := hkp S _ hz hTO (fun q => h1f (q ▸ Sp.mem1)) (fun q => h2f (q ▸ Sp.mem2)) hS
    have up : ∀ b o, b ≠ S → h'.get? b = some o → (h'.update S (Obj.mapSeq (·.push (Value.ref h.objs.size)))).get? b = some o := fun b o hb e => (Heap.get?_update_other _ _ (Ne.symm hb)).trans e
    have hSl : S < h.objs.size := Heap.lt_size hS
    show wpAny _ A.in1 (updateSeq S (·.push (Value.ref h.objs.size)) >>= _) _ _ _
    refine wpAny_bind ?_
    refine wpAny_updateSeq hS' rfl (wpAny_pure ⟨plainId_quiet PySem.F.plain_extend_loop _, ih (i + 1) _ tk' _ (acc.push (Value.ref h.objs.size)) (as ++ [h.objs.size]) (by omega) (by omega) (hst'.keep Sp D1 D2 up hz hTI hTO h1f h2f)
      (fun b o b1 b2 b3 b4 b5 e => up b o b1 (hkp b o b2 b3 b4 b5 (hkeep b o b1 b2 b3 b4 b5 e))) (Heap.get?_update_self _ hS' rfl) (by rw [Array.toList_push, hacc, List.map_append]; rfl) (by rw [List.length_append, hal]; rfl) ⟨?_, ?_, ?_⟩ ?_⟩) (by rw [hsz]; omega) (by show (acc.push (Value.ref h.objs.size)).size ≤ sizeLine + 1; rw [Array.size_push, hsz]; omega)
    · refine List.pairwise_append.mpr ⟨hG.rise, List.pairwise_singleton _ _, fun a ha b hb => ?_⟩
      rw [List.mem_singleton.mp hb]
      obtain ⟨j, hj⟩ := List.mem_iff_getElem?.mp ha
      obtain ⟨_, _, _, _, e⟩ := hG.pairs j a hj
      exact Heap.lt_size e
    · intro a ha
      rcases List.mem_append.mp ha with ha | ha
      · exact hG.above a ha
      · rw [List.mem_singleton.mp ha]; exact hIs
    · intro j b hj
      rcases Nat.lt_trichotomy j as.length with c1 | c1 | c1
      · rw [List.getElem?_append_left c1] at hj
        obtain ⟨x', y', q1, q2, q3⟩ := hG.pairs j b hj
        have hb := hG.above b (List.mem_of_getElem? hj)
        exact ⟨x', y', q1, q2, up b _ (ne lS hb) (hkp b _ (ne lz hb) (ne lTO hb) (ne l1 hb) (ne l2 hb) q3)⟩
      · subst c1
        have hb : h.objs.size = b := by simpa using hj
        subst hb
        subst hal
        exact ⟨x, y, hx, hy, up _ _ (Nat.ne_of_gt hSl) ht⟩
      · have hnone : (as ++ [h.objs.size])[j]? = none := List.getElem?_eq_none (by rw [List.length_append, List.length_singleton]; omega)
        rw [hnone] at hj; cases hj
    · have e : (h'.update S (Obj.mapSeq (·.push (Value.ref h.objs.size)))).get? h.objs.size = _ := up _ _ (Nat.ne_of_gt hSl) ht
      exact Nat.lt_trans hIs (Heap.lt_size e)
theorem zl_extend {S lo : Addr} (Sp : ZipSep2 z TI TO i1 i2 fp1 fp2) (D1 : Draws prog w A.in1.in1 i1 fp1 n1 P1 St1) (D2 : Draws prog w A.in1.in1 i2 fp2 n2 P2 St2) (hz : S ≠ z) (hTI : S ≠ TI) (hTO : S ≠ TO) (h1f : S ∉ fp1) (h2f : S ∉ fp2)
    (hlo : z ≤ lo ∧ TO ≤ lo ∧ i1 ≤ lo ∧ i2 ≤ lo ∧ S ≤ lo) (hls : lo < s.heap.objs.size) (hn : min n1 n2 ≤ sizeLine) (hst : ZlSt z TI TO i1 i2 fp1 fp2 St1 St2 S s.heap 0) (res : Value) (c₀ : Nat) (hS : s.heap.get? S = some { cls := .type "list", data := .seq #[] c₀ })
    (hR : ∀ h' tk acc c as, (∀ b o, b ≠ S → b ≠ z → b ≠ TO → b ≠ i1 → b ≠ i2 → s.heap.get? b = some o → h'.get? b = some o) → h'.get? S = some { cls := .type "list", dict := none, data := .seq acc c, slots := #[] } → as.length = min n1 n2 → ZlG P1 P2 lo h' as →
      acc.toList = as.map Value.ref → R (.ok (.ret res)) { s with heap := h', toks := tk }) :
    wpAny (model prog w) A.in1 (Builtin.List.listExtendWith (.ref S) (.ref z) res)
      (fun fin s' => match fin with | .done f => R (.ok f) s' | .again c' => c'.quiet = true ∧ codeAny (model prog w) A c' R s') (fun e s' => R (.error e) s') s := by
  have hTy : s.TypeIs (.ref z) "zip" := by
    rcases hst.z with e | ⟨_, _, _, e, _⟩
    · exact ⟨_, e, rfl⟩
    · exact ⟨_, e, rfl⟩
  unfold Builtin.List.listExtendWith
  refine wpAny_bind (wpAny_typeOf hTy ?_)
  have h1 : Builtin.List.listSameRef (.ref S) (.ref z) = false := by simp [Builtin.List.listSameRef, hz]
  have h2 : (Value.type "zip" == Value.type "list") = false := by decide
  have h3 : (Value.type "zip" == Value.type "tuple") = false := by decide
  simp only [h1, h2, h3, Bool.or_false, Bool.false_eq_true, if_false]
  refine wpAny_bind ?_
  have hIter : ∀ {Q : Value → Shared → Prop}, Q (.ref z) s → wpAny (model prog w) A.in1 (pyIter (.ref z)) Q (fun e s' => R (.error e) s') s := by
    intro Q hq
    rcases hst.z with e | ⟨T, f, _, e, _⟩
    · exact wpAny_pyIter_zip e hq
    · exact wpAny_pyIter_slot hTy F.slot_zip_iter (wpAny_call_entry F.slot_zip_iter hTy F.entry_zip_iter (show wpAny _ _ (ret (.ref z)) _ _ s from wpAny_pure ⟨_, rfl, "zip", _, hTy, F.slot_zip_next.lookup, hq⟩) (F.args_zip_iter_1 _))
  refine hIter ?_
  refine wpAny_bind (wpAny_holding ?_)
  unfold Builtin.List.listLengthHint
  refine wpAny_bind (wpAny_specialOf hTy zl_no_len ?_)
  show wpAny _ A.in1 (specialOf (Value.ref z) (Str.ofString "__length_hint__") >>= _) _ _ _
  refine wpAny_bind (wpAny_specialOf hTy zl_no_hint ?_)
  refine wpAny_pure ?_
  show wpAny _ A.in1 (rule "list.extend.makes-room" >>= fun _ => Builtin.List.listTouch (.ref S) >>= fun _ =>
    again (.builtin "list.extend.loop" ⟨[.ref S, .ref z, res], []⟩)) _ _ _
  refine wpAny_bind (wpAny_rule ?_)
  refine wpAny_bind ?_
  show wpAny _ A.in1 (updateSeq S (·.push .none) >>= fun _ => updateSeq S (·.pop)) _ _ _
  refine wpAny_bind (wpAny_updateSeq hS rfl ?_)
  have hS₂ := Heap.get?_update_self (Obj.mapSeq (·.push Value.none)) hS rfl
  refine wpAny_updateSeq (hz := by seq_fits) hS₂ rfl ?_
  have hS₃ := Heap.get?_update_self (Obj.mapSeq (·.pop)) hS₂ rfl
  have oth : ∀ b o, b ≠ S → s.heap.get? b = some o → ((s.heap.update S (Obj.mapSeq (·.push Value.none))).update S (Obj.mapSeq (·.pop))).get? b = some o :=
    fun b o hb e => (Heap.get?_update_other _ _ (Ne.symm hb)).trans ((Heap.get?_update_other _ _ (Ne.symm hb)).trans e)
  refine wpAny_pure ⟨plainId_quiet F.plain_extend_loop _, zl_loop (h₁ := s.heap) (lo := lo) Sp D1 D2 hz hTI hTO h1f h2f hlo hn res hR (min n1 n2) 0 _ _ _ #[] [] (Nat.sub_zero _) (Nat.zero_le _)
    (hst.keep Sp D1 D2 oth hz hTI hTO h1f h2f) (fun b o b1 _ _ _ _ e => oth b o b1 e) hS₃ rfl rfl ⟨List.Pairwise.nil, (fun _ ha => nomatch ha), (fun j a hj => by simp at hj)⟩ ?_⟩
  have : lo < ((s.heap.update S (Obj.mapSeq (·.push Value.none))).update S (Obj.mapSeq (·.pop))).objs.size := by simpa [Heap.size_update] using hls
  exact this
end
end PySem.W
end
section
set_option Elab.async false
set_option linter.all false
set_option maxRecDepth 100000
set_option maxHeartbeats 4000000
/-! list(zip(x, y)) over data. -/
namespace PySem.W
open PySem PySem.Calls PyProof.Rows PyProof.V PySem.Spec
section
variable {prog : Program} {w : World} {A : Around} {E : Value → Shared → Prop} {s : Shared} {R : Result → Shared → Prop} {z TI TO i1 i2 : Addr} {fp1 fp2 : List Addr} {n1 n2 : Nat} {P1 P2 : Nat → Value → Prop} {St1 St2 : Nat → Heap → Prop}
theorem zl_call {Q : Value → Shared → Prop} (Sp : ZipSep2 z TI TO i1 i2 fp1 fp2) (D1 : Draws prog w A.in1.in1.in1 i1 fp1 n1 P1 St1) (D2 : Draws prog w A.in1.in1.in1 i2 fp2 n2 P2 St2)
    (hlt : z < s.heap.objs.size ∧ TI < s.heap.objs.size ∧ TO < s.heap.objs.size ∧ (∀ b ∈ fp1, b < s.heap.objs.size) ∧ ∀ b ∈ fp2, b < s.heap.objs.size) (hn : min n1 n2 ≤ sizeLine) (hst : ∀ S, s.heap.objs.size ≤ S → ZlSt z TI TO i1 i2 fp1 fp2 St1 St2 S s.heap 0)
    (hQ : ∀ h' tk acc c as, (∀ b o, b ≠ z → b ≠ TO → b ≠ i1 → b ≠ i2 → s.heap.get? b = some o → h'.get? b = some o) → h'.get? s.heap.objs.size = some { cls := .type "list", dict := none, data := .seq acc c, slots := #[] } → as.length = min n1 n2 → ZlG P1 P2 s.heap.objs.size h' as →
      acc.toList = as.map Value.ref → Q (.ref s.heap.objs.size) { s with heap := h', toks := tk }) :
    wpAny (model prog w) A (call (.type "list") [.ref z]) Q E s := by
  obtain ⟨lz, lTI, lTO, l1, l2⟩ := hlt
  have li1 := l1 i1 Sp.mem1
  have li2 := l2 i2 Sp.mem2
  refine callType_codes (Q₁ := fun obj s₁ => obj = .ref s.heap.objs.size ∧ s₁ = { s with heap := s.heap.push { cls := .type "list", data := .seq #[] } }) PySem.F.called_list (PySem.F.typeCall_list_1 _) PySem.F.entry_list_init
    (code_list_new _ ⟨rfl, rfl⟩) fun obj s₁ h₁ => ?_
  obtain ⟨rfl, rfl⟩ := h₁
  have hS : (s.heap.push { cls := .type "list", data := .seq #[] }).get? s.heap.objs.size = some { cls := .type "list", data := .seq #[] } := Heap.get?_push_size _ rfl
  refine ⟨⟨_, hS, rfl⟩, PySem.F.args_list_init_2 _ _, ?_⟩
  show wpAny _ A.in1.in1 (do let old ← Builtin.List.listItems (.ref s.heap.objs.size); Builtin.List.listUpdate (.ref s.heap.objs.size) (fun _ => #[]); letGo old.toList.reverse; Builtin.List.listExtendWith (.ref s.heap.objs.size) (.ref z) .none) _ _ _
  refine wpAny_bind ?_
  unfold Builtin.List.listItems
  refine wpAny_bind (wpAny_seqItems hS rfl (wpAny_pure ?_))
  show wpAny _ _ (updateSeq s.heap.objs.size (fun _ => #[]) >>= fun _ => letGo (#[] : Array Value).toList.reverse >>= fun _ => Builtin.List.listExtendWith (.ref s.heap.objs.size) (.ref z) .none) _ _ _
  refine wpAny_bind (wpAny_updateSeq hS rfl ?_)
  have hS₂ := Heap.get?_update_self (Obj.mapSeq (fun _ => (#[] : Array Value))) hS rfl
  have oth : ∀ b o, b ≠ s.heap.objs.size → s.heap.get? b = some o → ((s.heap.push { cls := .type "list", data := .seq #[] }).update s.heap.objs.size (Obj.mapSeq (fun _ => (#[] : Array Value)))).get? b = some o :=
    fun b o hb e => (Heap.get?_update_other _ _ (Ne.symm hb)).trans (Heap.get?_push_of_some _ e)
  refine wpAny_bind (wpAny_letGo ?_)
  refine zl_extend (lo := s.heap.objs.size) Sp D1 D2 (Nat.ne_of_gt lz) (Nat.ne_of_gt lTI) (Nat.ne_of_gt lTO) (fun m => Nat.lt_irrefl _ (l1 _ m)) (fun m => Nat.lt_irrefl _ (l2 _ m)) ⟨Nat.le_of_lt lz, Nat.le_of_lt lTO, Nat.le_of_lt li1, Nat.le_of_lt li2, Nat.le_refl _⟩ ?_ hn ?_ .none _ hS₂
    (fun h' tk acc c as hk hS' hl hG hacc => ?_)
  · have : s.heap.objs.size < ((s.heap.push { cls := .type "list", data := .seq #[] }).update s.heap.objs.size (Obj.mapSeq (fun _ => (#[] : Array Value)))).objs.size := Heap.lt_size hS₂
    exact this
  · exact (hst s.heap.objs.size (Nat.le_refl _)).keep Sp D1 D2 oth (Nat.ne_of_gt lz) (Nat.ne_of_gt lTI) (Nat.ne_of_gt lTO) (fun m => Nat.lt_irrefl _ (l1 _ m)) (fun m => Nat.lt_irrefl _ (l2 _ m))
  · exact ⟨rfl, hQ h' tk acc c as (fun b o b2 b3 b4 b5 e => hk b o (Nat.ne_of_lt (Heap.lt_size e)) b2 b3 b4 b5 (oth b o (Nat.ne_of_lt (Heap.lt_size e)) e)) hS' hl hG hacc⟩
end
end PySem.W
namespace DL
open PySem PySem.Spec PyProof.Rows L2
def put2 : Hp → List Addr → List (V × V) → Hp
  | H, a :: as, q :: qs => put2 (upd H a (.tup [q.1, q.2])) as qs
  | H, _, _ => H
theorem put2_off : ∀ (as : List Addr) (qs : List (V × V)) {H : Hp} {b : Addr}, b ∉ as → put2 H as qs b = H b
  | [], _, _, _, _ => by rw [put2]; intros; simp_all
  | a :: as, [], _, _, _ => by rw [put2]; intros; simp_all
  | a :: as, q :: qs, H, b, h => by
    rw [put2, put2_off as qs (fun z => h (List.mem_cons_of_mem _ z)), upd_ne (fun z => h (by rw [z]; exact List.mem_cons_self))]
theorem put2_at : ∀ (as : List Addr) (qs : List (V × V)) (H : Hp), as.length = qs.length → as.Nodup → Paired (fun (t : Addr) (q : V × V) => put2 H as qs t = some (.tup [q.1, q.2])) as qs
  | [], [], _, _, _ => .nil
  | a :: as, q :: qs, H, hl, hn => by
    obtain ⟨h1, h2⟩ := List.nodup_cons.mp hn
    rw [put2]
    refine .cons ?_ (put2_at as qs _ (by simpa using hl) h2)
    rw [put2_off as qs h1, upd_same]
section
variable {X : Cx}
theorem zip_laid {pins : List (Addr × Obj)} {σ : L2.St} {H : Hp} {s : Shared} {h' : Heap} {tk : Nat} {qs : List (V × V)} {p : Addr} {acc : Array Value} {c : Nat} {as : List Addr} (I : Inv X pins σ H s) (hz : qs.length ≤ sizeLine)
    (hk : ∀ b o, s.heap.get? b = some o → h'.get? b = some o) (hp : s.heap.objs.size ≤ p) (hS : h'.get? p = some { cls := .type "list", dict := none, data := .seq acc c, slots := #[] }) (hl : as.length = qs.length) (hr : as.Pairwise (· < ·)) (ha : ∀ a ∈ as, p < a)
    (hpr : ∀ (j : Nat) (a : Addr) (q : V × V), as[j]? = some a → qs[j]? = some q → ∃ x y, RelV q.1 x ∧ RelV q.2 y ∧ IsTupOf2 h' a x y) (hacc : acc.toList = as.map Value.ref) :
    ∃ H' : Hp, (∀ b o, H b = some o → H' b = some o) ∧ H p = none ∧ H' p = some (.lst (as.map V.ref)) ∧ Paired (fun (t : Addr) (q : V × V) => H' t = some (.tup [q.1, q.2])) as qs ∧ Inv X pins σ H' { s with heap := h', toks := tk } := by
  have hSn : p ∉ as := fun z => Nat.lt_irrefl _ (ha _ z)
  have nd : as.Nodup := List.Pairwise.imp (fun {a b} (h : a < b) => Nat.ne_of_lt h) hr
  have new : ∀ t ∈ as, H t = none := fun t ht => I.hok.fresh (Nat.le_trans hp (Nat.le_of_lt (ha t ht)))
  have newS : H p = none := I.hok.fresh hp
  have atP := put2_at as qs (upd H p (.lst (as.map V.ref))) hl nd
  have off : ∀ b, b ∉ as → b ≠ p → put2 (upd H p (.lst (as.map V.ref))) as qs b = H b := fun b h1 h2 => by rw [put2_off as qs h1, upd_ne h2]
  have low : ∀ b o, s.heap.get? b = some o → b ∉ as ∧ b ≠ p := fun b o e => ⟨fun z => absurd (Heap.lt_size e) (Nat.not_lt.mpr (Nat.le_trans hp (Nat.le_of_lt (ha b z)))), Nat.ne_of_lt (Nat.lt_of_lt_of_le (Heap.lt_size e) hp)⟩
  have kp : ∀ b u, H b = some u → (put2 (upd H p (.lst (as.map V.ref))) as qs) b = some u := fun b u e => by
    rw [off b (fun z => by rw [new b z] at e; cases e) (fun z => by rw [z, newS] at e; cases e)]
    exact e
  have eS : put2 (upd H p (.lst (as.map V.ref))) as qs p = some (.lst (as.map V.ref)) := by rw [put2_off as qs hSn, upd_same]
  refine ⟨put2 (upd H p (.lst (as.map V.ref))) as qs, kp, newS, eS, atP, ?_⟩
  refine I.call' (ch := []) rfl ⟨fun b o q _ _ _ => hk b o q, fun b o q _ _ _ => ⟨o.slots, hk b o q⟩, fun b o q n _ => ?_, fun b o q _ => ⟨o, hk b o q⟩, fun b xs q => kp b _ q, fun b o u q => kp b _ q, fun b ps q => ⟨#[], by rw [kp b _ q]; simp⟩⟩ (fun b u q => ?_) I.bare fun b z => by simp at z
  · obtain ⟨z1, z2⟩ := low b o q
    rw [off b z1 z2]
    exact n
  · by_cases hb : b ∈ as
    · obtain ⟨j, pk, e1, e2, e3⟩ := LiI.paired_ix atP hb
      rw [e3] at q
      cases q
      obtain ⟨x, y, f1, f2, f3⟩ := hpr j b pk e1 e2
      exact ⟨by show 2 ≤ sizeLine; decide, [x, y], .cons f1 (.cons f2 .nil), ⟨_, f3, rfl, _, rfl⟩⟩
    · by_cases hb2 : b = p
      · rw [hb2] at q ⊢
        rw [eS] at q
        cases q
        refine ⟨by rw [List.length_map]; omega, acc.toList, c, by rw [hacc]; exact LiI.vals_refs as, ?_⟩
        rw [Array.toArray_toList]
        exact hS
      · rw [off b hb hb2] at q
        exact (I.hok b u q).stay (fun d v _ y => hk d v y) (fun d y => kp d _ y) fun d xs y => kp d _ y
def rZipL (K : PySem.W.Frag) : List V → Hp → VK → Prop := fun vs H Q => ∃ (a b : Addr) (xs ys : List V), vs = [.ref a, .ref b] ∧ ((SqL K H a xs ∧ SqL K H b ys) ∨ (SqT K H a xs ∧ SqT K H b ys)) ∧ xs.length ≤ sizeLine ∧
  ∀ (H' : Hp) (p : Addr) (ts : List Addr), (∀ b o, H b = some o → H' b = some o) → H p = none → H' p = some (.lst (ts.map V.ref)) → Paired (fun (t : Addr) (q : V × V) => H' t = some (.tup [q.1, q.2])) ts (xs.zip ys) → Q (.ref p) H'
theorem zip_vals {xs ys : List V} {its its2 : List Value} (r1 : Vals xs its) (r2 : Vals ys its2) {j : Nat} {q : V × V} (h : (xs.zip ys)[j]? = some q) : ∃ x y, its.toArray[j]? = some x ∧ its2.toArray[j]? = some y ∧ RelV q.1 x ∧ RelV q.2 y := by
  rw [List.getElem?_zip_eq_some] at h
  obtain ⟨x, hx, rx⟩ := r1.get h.1
  obtain ⟨y, hy, ry⟩ := r2.get h.2
  exact ⟨x, y, by simpa using hx, by simpa using hy, rx, ry⟩
theorem pe_listZip {e e2 : Expr} {ta : TA} {p p2 pos pos2 : Pos} (hc : X.calm = true) (hg : Gl X "list") (hm : X.mg "list" = none) (hg2 : Gl X "zip") (hm2 : X.mg "zip" = none) (ha : PA X [e, e2] ta)
    (hs : starEach [e, e2] X.env = (false, eval e X.env) :: starEach [e2] X.env := by rfl) (hpl : (backTo pos2 (starEach [e2] X.env)).any (·.1) = false := by rfl)
    (hs2 : starEach [.Call (.Name "zip" p2) [e, e2] [] pos2] X.env = (false, eval (.Call (.Name "zip" p2) [e, e2] [] pos2) X.env) :: starEach [] X.env := by rfl) :
    PE X (.Call (.Name "list" p) [.Call (.Name "zip" p2) [e, e2] [] pos2] [] pos) (tCB (rZipL X.K) ta) := by
  refine ⟨fun pins s σ H Q I h => ?_⟩
  refine Call_ (ld_blt I hg hm boot_list (PyProof.Rows.callWith_type1 (args_cons (Call_ (ld_blt I hg2 hm2 PyProof.Rows.boot_zip (PyProof.Rows.callWith_type1 (thn (ha.run pos2 pins s σ H _ I h) fun us s1 ⟨vs, H1, I1, r1, q1⟩ => ?_) hs hpl))) hs2) hs2 rfl))
  obtain ⟨a, b, xs, ys, ev, hd, hzz, q⟩ := q1
  subst ev
  cases r1 with
  | cons r rr =>
    cases rr with
    | cons r' rr =>
      cases rr
      cases r
      cases r'
      have fin : ∀ (h1 h' : Heap) (tk : Nat) (acc : Array Value) (c : Nat) (as : List Addr) (its its2 : List Value), Vals xs its → Vals ys its2 → s1.heap.objs.size + 5 = h1.objs.size →
          (∀ b o, s1.heap.get? b = some o → h'.get? b = some o) → h'.get? h1.objs.size = some { cls := .type "list", dict := none, data := .seq acc c, slots := #[] } → as.length = min its.toArray.size its2.toArray.size →
          PySem.W.ZlG (fun i v => its.toArray[i]? = some v) (fun i v => its2.toArray[i]? = some v) h1.objs.size h' as → acc.toList = as.map Value.ref → EP X pins σ Q (.ref h1.objs.size) { s1 with heap := h', toks := tk } := fun h1 h' tk acc c as its its2 rv rv2 hsz hk hS hl hG hacc => by
        have lz : (xs.zip ys).length = min its.toArray.size its2.toArray.size := by rw [List.length_zip, rv.length, rv2.length]; simp
        obtain ⟨H', k1, k2, k3, k4, J⟩ := zip_laid (tk := tk) (qs := xs.zip ys) (p := h1.objs.size) I1 (by rw [List.length_zip]; omega) hk (by omega) hS (by rw [lz]; exact hl) hG.rise hG.above (fun j a qv e1 e2 => by
          obtain ⟨x, y, f1, f2, f3⟩ := hG.pairs j a e1
          obtain ⟨x', y', g1, g2, g3, g4⟩ := zip_vals rv rv2 e2
          rw [f1] at g1
          rw [f2] at g2
          cases g1
          cases g2
          exact ⟨x, y, g3, g4, f3⟩) hacc
        exact ⟨.ref h1.objs.size, H', J, rfl, q H' _ as k1 k2 k3 k4⟩
      rcases hd with ⟨hqx, hqy⟩ | ⟨hqx, hqy⟩
      · obtain ⟨its, rv, p1, z1⟩ := I1.list hqx
        obtain ⟨its2, rv2, p2, z2⟩ := I1.list hqy
        obtain ⟨oa, hoa, _⟩ := id p1.isList
        obtain ⟨ob, hob, _⟩ := id p2.isList
        have la := Heap.lt_size hoa
        have lb := Heap.lt_size hob
        refine PySem.zip_begins2 (PySem.begins_list a its.toArray) (PySem.begins_list b its2.toArray) p1.isList p2.isList fun h' hz hTI hTO g1 g2 hsz hk => args_nil ?_
        have Sp := PySem.zip_sep2 (N := s1.heap.objs.size) (fp1 := [a]) (fp2 := [b]) (by simpa using la) (by simpa using lb)
        refine PySem.W.zl_call (s := { s1 with heap := h' }) Sp (PySem.Draws.list (A := X.A.in1.in1.in1) (I1.ok.hd hc) s1.heap.objs.size a (Nat.ne_of_lt la) its.toArray) (PySem.Draws.list (A := X.A.in1.in1.in1) (I1.ok.hd hc) (s1.heap.objs.size + 1) b (Nat.ne_of_lt (Nat.lt_succ_of_lt lb)) its2.toArray) ?_ ?_ ?_ (fun h2 tk acc c as hk2 hS hl hG hacc => ?_)
        · refine ⟨Heap.lt_size hz, Heap.lt_size hTI, Heap.lt_size hTO, fun x hx => ?_, fun x hx => ?_⟩
          · show x < h'.objs.size
            have e' : x = s1.heap.objs.size ∨ x = a := by simpa using hx
            rcases e' with e | e <;> rw [e, hsz]
            · exact Nat.lt_add_of_pos_right (by decide)
            · exact Nat.lt_of_lt_of_le la (Nat.le_add_right _ _)
          · show x < h'.objs.size
            have e' : x = s1.heap.objs.size + 1 ∨ x = b := by simpa using hx
            rcases e' with e | e <;> rw [e, hsz]
            · exact Nat.add_lt_add_left (by decide) _
            · exact Nat.lt_of_lt_of_le lb (Nat.le_add_right _ _)
        · have l1 := rv.length
          rw [List.size_toArray]
          omega
        · intro S hS
          exact ⟨.inl hz, hTI, ⟨_, _, hTO⟩, ⟨⟨_, g1, rfl, rfl⟩, p1.isList.at fun o e => hk a o e⟩, ⟨⟨_, g2, rfl, rfl⟩, p2.isList.at fun o e => hk b o e⟩⟩
        · exact fin h' h2 tk acc c as its its2 rv rv2 hsz.symm (fun x o e => hk2 x o (Nat.ne_of_lt (Nat.lt_of_lt_of_le (Heap.lt_size e) (Nat.le_add_right _ _))) (Nat.ne_of_lt (Nat.lt_of_lt_of_le (Heap.lt_size e) (Nat.le_add_right _ _))) (Nat.ne_of_lt (Heap.lt_size e)) (Nat.ne_of_lt (Nat.lt_of_lt_of_le (Heap.lt_size e) (Nat.le_add_right _ _))) (hk x o e)) hS hl hG hacc
      · obtain ⟨its, rv, p1, z1⟩ := I1.tuple hqx
        obtain ⟨its2, rv2, p2, z2⟩ := I1.tuple hqy
        obtain ⟨oa, hoa, _⟩ := id p1
        obtain ⟨ob, hob, _⟩ := id p2
        have la := Heap.lt_size hoa
        have lb := Heap.lt_size hob
        refine PySem.zip_begins2 (PySem.begins_tuple a its.toArray) (PySem.begins_tuple b its2.toArray) (show s1.heap.IsTuple a its.toArray from p1) (show s1.heap.IsTuple b its2.toArray from p2) fun h' hz hTI hTO g1 g2 hsz hk => args_nil ?_
        have Sp := PySem.zip_sep2 (N := s1.heap.objs.size) (fp1 := [a]) (fp2 := [b]) (by simpa using la) (by simpa using lb)
        refine PySem.W.zl_call (s := { s1 with heap := h' }) Sp (PySem.Draws.tuple (A := X.A.in1.in1.in1) (I1.ok.hd hc) s1.heap.objs.size a (Nat.ne_of_lt la) its.toArray) (PySem.Draws.tuple (A := X.A.in1.in1.in1) (I1.ok.hd hc) (s1.heap.objs.size + 1) b (Nat.ne_of_lt (Nat.lt_succ_of_lt lb)) its2.toArray) ?_ ?_ ?_ (fun h2 tk acc c as hk2 hS hl hG hacc => ?_)
        · refine ⟨Heap.lt_size hz, Heap.lt_size hTI, Heap.lt_size hTO, fun x hx => ?_, fun x hx => ?_⟩
          · show x < h'.objs.size
            have e' : x = s1.heap.objs.size ∨ x = a := by simpa using hx
            rcases e' with e | e <;> rw [e, hsz]
            · exact Nat.lt_add_of_pos_right (by decide)
            · exact Nat.lt_of_lt_of_le la (Nat.le_add_right _ _)
          · show x < h'.objs.size
            have e' : x = s1.heap.objs.size + 1 ∨ x = b := by simpa using hx
            rcases e' with e | e <;> rw [e, hsz]
            · exact Nat.add_lt_add_left (by decide) _
            · exact Nat.lt_of_lt_of_le lb (Nat.le_add_right _ _)
        · have l1 := rv.length
          rw [List.size_toArray]
          omega
        · intro S hS
          exact ⟨.inl hz, hTI, ⟨_, _, hTO⟩, ⟨⟨_, g1, rfl, rfl⟩, (show s1.heap.IsTuple a its.toArray from p1).at fun o e => hk a o e⟩, ⟨⟨_, g2, rfl, rfl⟩, (show s1.heap.IsTuple b its2.toArray from p2).at fun o e => hk b o e⟩⟩
        · exact fin h' h2 tk acc c as its its2 rv rv2 hsz.symm (fun x o e => hk2 x o (Nat.ne_of_lt (Nat.lt_of_lt_of_le (Heap.lt_size e) (Nat.le_add_right _ _))) (Nat.ne_of_lt (Nat.lt_of_lt_of_le (Heap.lt_size e) (Nat.le_add_right _ _))) (Nat.ne_of_lt (Heap.lt_size e)) (Nat.ne_of_lt (Nat.lt_of_lt_of_le (Heap.lt_size e) (Nat.le_add_right _ _))) (hk x o e)) hS hl hG hacc
def dListZip (t : TDA) : TD := fun env G Q => t env G fun ds G1 => ∃ l m, ((∃ a b, ds = [.ref a, .ref b] ∧ lstAt G1 a = some l ∧ lstAt G1 b = some m) ∨ ds = [.tup l, .tup m]) ∧ ∀ p, G1 p = none → Q (.ref p) (up G1 p (.lst (zipD l m)))
theorem rvs_pairs {K : PySem.W.Frag} {mg : Mg} {H : Hp} : ∀ {l m : List D} {xs ys : List V} {ts : List Addr}, Rvs K mg H l xs → Rvs K mg H m ys → Paired (fun (t : Addr) (q : V × V) => H t = some (.tup [q.1, q.2])) ts (xs.zip ys) → Rvs K mg H (zipD l m) (ts.map V.ref)
  | [], m, xs, ys, ts, r1, r2, h => by
    rw [rvs_nil_inv r1] at h
    cases ts with
    | nil => exact rvs_nil
    | cons _ _ => cases h
  | d :: l, [], xs, ys, ts, r1, r2, h => by
    rw [rvs_nil_inv r2] at h
    cases ts with
    | nil => exact rvs_nil
    | cons _ _ => rw [List.zip_nil_right] at h; cases h
  | d :: l, e :: m, xs, ys, ts, r1, r2, h => by
    obtain ⟨v, vs, rfl, a1, a2⟩ := rvs_cons_inv r1
    obtain ⟨u, us, rfl, b1, b2⟩ := rvs_cons_inv r2
    cases ts with
    | nil => cases h
    | cons t ts =>
      cases h with
      | cons h1 h2 =>
        exact rvs_cons (rv_tup (.inl (.inl h1)) (rvs_cons a1 (rvs_cons b1 rvs_nil)) (by show 2 ≤ sizeLine; rw [sizeLine_eq]; omega)) (rvs_pairs a2 b2 h2)
theorem de_listZip {e e2 : Expr} {ta : TDA} {p p2 pos pos2 : Pos} (hc : X.calm = true) (hg : Gl X "list") (hm : X.mg "list" = none) (hg2 : Gl X "zip") (hm2 : X.mg "zip" = none) (ha : DA X [e, e2] ta)
    (hs : starEach [e, e2] X.env = (false, eval e X.env) :: starEach [e2] X.env := by rfl) (hpl : (backTo pos2 (starEach [e2] X.env)).any (·.1) = false := by rfl)
    (hs2 : starEach [.Call (.Name "zip" p2) [e, e2] [] pos2] X.env = (false, eval (.Call (.Name "zip" p2) [e, e2] [] pos2) X.env) :: starEach [] X.env := by rfl) :
    DE X (.Call (.Name "list" p) [.Call (.Name "zip" p2) [e, e2] [] pos2] [] pos) (dListZip ta) :=
  de_of (pe_listZip hc hg hm hg2 hm2 ha hs hpl hs2) fun σ H env G Q Qv rs rg h k => ⟨env, G, _, rs, rg, h, fun ds G1 vs H1 ⟨l, m, hd, q⟩ r rg1 f => by
    have fin : ∀ (xs ys : List V), Rvs X.K X.m H1 l xs → Rvs X.K X.m H1 m ys → l.length ≤ sizeLine → ∀ (H' : Hp) (p : Addr) (ts : List Addr), (∀ b o, H1 b = some o → H' b = some o) → H1 p = none → H' p = some (.lst (ts.map V.ref)) → Paired (fun (t : Addr) (q : V × V) => H' t = some (.tup [q.1, q.2])) ts (xs.zip ys) → Qv (.ref p) H' := by
      intro xs ys r1 r2 hz H' p ts kp np hp hpr
      have tk : TupKeep X.K H1 H' := ⟨fun a vs h => by
        rcases h with (h | ⟨o, h⟩) | h
        · exact .inl (.inl (kp _ _ h))
        · exact .inl (.inr ⟨o, kp _ _ h⟩)
        · exact .inr h, fun c q h => kp _ _ h⟩
      have gp := rg1.fresh np
      have rp := rvs_pairs (r1.mono tk) (r2.mono tk) hpr
      refine k _ _ _ _ (q p gp) rv_ref (fun a o e => ?_) (f.trans ⟨fun a o e1 e2 n => ⟨kp _ _ e1, ?_⟩⟩)
      · by_cases z : a = p
        · subst z
          rw [up_same] at e
          cases e
          exact ⟨_, hp, rp, by unfold zipD; rw [List.length_zipWith]; omega⟩
        · rw [up_ne z] at e
          have hro := rg1 a o e
          have : H' a = H1 a := by
            cases hh : H1 a with
            | some u => exact kp _ _ hh
            | none =>
              exfalso
              have := rg1.fresh (a := a) hh
              rw [this] at e
              cases e
          exact hro.mono tk this
      · have ne : a ≠ p := fun z => by rw [z, np] at e1; cases e1
        rw [up_ne ne]
        exact e2
    rcases hd with ⟨a, b, ed, e1, e2⟩ | ed
    · subst ed
      obtain ⟨v, w, rfl, ra, rb⟩ := two_inv r
      obtain ⟨xs, g1, g2, g3⟩ := rg1.lst e1
      obtain ⟨ys, g4, g5, g6⟩ := rg1.lst e2
      exact ⟨a, b, xs, ys, by rw [rv_ref_inv ra, rv_ref_inv rb], .inl ⟨g1, g4⟩, by rw [← g2.length]; exact g3, fin xs ys g2 g5 g3⟩
    · subst ed
      obtain ⟨v, w, rfl, ra, rb⟩ := two_inv r
      obtain ⟨a, xs, rfl, g1, g2, g3⟩ := rv_tup_inv ra
      obtain ⟨b, ys, rfl, g4, g5, g6⟩ := rv_tup_inv rb
      exact ⟨a, b, xs, ys, rfl, .inr ⟨g1, g4⟩, by rw [← g2.length]; exact g3, fin xs ys g2 g5 g3⟩⟩
end
end DL
end
section
set_option Elab.async false
set_option linter.all false
set_option maxRecDepth 100000
set_option maxHeartbeats 4000000
/-! for x, y in zip(t, l, strict=True), t a tuple, l a list of one length. -/
namespace PySem
open Sem (wp)
abbrev IsZipY (h : Heap) (z TI TO : Addr) (f0 : Value) : Prop :=
  h.get? z = some { cls := .type "zip", dict := none, data := .fields #[f0, .bool false, .bool true, .ref TI, .ref TO], slots := #[] }
section
variable {prog : Program} {w : World} {A : Around} {E : Value → Shared → Prop} {s : Shared}
theorem wpAny_orEnd_item {it : Addr} {fp : List Addr} {n i : Nat} {P : Nat → Value → Prop} {St : Nat → Heap → Prop} {Q : Option Value → Shared → Prop} (D : Draws prog w A it fp n P St) (hi : i < n) (st : St i s.heap)
    (h : ∀ x h' tk, P i x → St (i + 1) h' → Heap.SameBut it s.heap h' → Q (some x) { s with heap := h', toks := tk }) : wpAny (model prog w) A (Builtin.SmallTypes.nextOrEnd (.ref it)) Q E s := by
  unfold Builtin.SmallTypes.nextOrEnd
  exact wpAny_bind (wpAny_attempt (D.item i s _ _ hi st fun x h' tk a b c => wpAny_pure (h x h' tk a b c)))
theorem wpAny_orEnd_done {it : Addr} {fp : List Addr} {n : Nat} {P : Nat → Value → Prop} {St : Nat → Heap → Prop} {Q : Option Value → Shared → Prop} (D : Draws prog w A it fp n P St) (st : St n s.heap)
    (h : ∀ h', Heap.ExtBut it s.heap h' → Q none { s with heap := h' }) : wpAny (model prog w) A (Builtin.SmallTypes.nextOrEnd (.ref it)) Q E s := by
  unfold Builtin.SmallTypes.nextOrEnd
  refine wpAny_bind (wpAny_attempt (D.done s _ _ st fun h' e a b => ?_))
  obtain ⟨o, ho, hc⟩ := b
  refine wpAny_bind (wpAny_isInstance (T := "StopIteration") (b := true) ⟨o, ho, hc⟩ isSubtype_stop ?_)
  exact wpAny_pure (h h' a)
theorem wpAny_stopIt {α : Type} {Q : α → Shared → Prop} (hh : A.handled = none) (h : ∀ h' e, (∀ c o, s.heap.get? c = some o → h'.get? c = some o) → (∃ o, h'.get? e = some o ∧ o.cls = .type "StopIteration") → E (.ref e) { s with heap := h' }) :
    wpAny (model prog w) A (Builtin.SmallTypes.stopIteration : Sem α) Q E s := by
  unfold Builtin.SmallTypes.stopIteration
  refine wpAny_bind ?_
  simp only [newExc, newTuple]
  refine wpAny_bind (wpAny_newObj_type ?_ (by size_fits))
  refine wpAny_bind (m := firstArgMember _ _) (wpAny_of_eq (a := Value.none) (by first | rfl | (simp only [firstArgMember]; rfl)) ?_)
  refine wpAny_newObj_type ?_ (by size_fits)
  simp only [raiseNew]
  refine wpAny_bind (wpAny_handled ?_)
  rw [hh]
  refine wpAny_bind (wpAny_pure (wpAny_throw ?_))
  exact h _ _ (fun c o e => Heap.get?_push_of_some _ (Heap.get?_push_of_some _ e)) ⟨_, Heap.get?_push_size _ rfl, rfl⟩
theorem wpAny_letOwnedTupleGo_zipY {elts : List Expr} {x1} {pos : Pos} {z TI TO T : Addr} {Q : Unit → Shared → Prop} (hz : IsZipY s.heap z TI TO (rawInt T))
    (hQ : ∀ h', IsZipY h' z TI TO .none → Heap.SameBut z s.heap h' → Q () { s with heap := h' }) :
    wpAny (model prog w) A (letOwnedTupleGo (.Tuple elts x1 pos) (.ref z) (.ref T)) Q E s := by
  unfold letOwnedTupleGo
  refine wpAny_bind (wpAny_load hz ?_)
  show wpAny _ _ (if (["enumerate", "zip", "dict_itemiterator", "dict_reverseitemiterator", "odict_iterator", "itertools.zip_longest", "itertools.pairwise"].contains "zip" &&
      (#[rawInt T, .bool false, .bool true, .ref TI, .ref TO] : Array Value)[0]? == some (rawInt T)) = true then _ else _) Q E s
  rw [if_pos (by simp)]
  refine wpAny_bind (wpAny_rule ?_)
  show wpAny _ _ (setField (.ref z) 0 .none) Q E s
  exact wpAny_setField_rec hz (by simp) fun h' hz' hs' => hQ h' hz' hs'
theorem wpAny_pyIter_zipY {z TI TO : Addr} {f0 : Value} {Q : Value → Shared → Prop} (hz : IsZipY s.heap z TI TO f0) (h : Q (.ref z) s) : wpAny (model prog w) A (pyIter (.ref z)) Q E s := by
  have hT : s.TypeIs (.ref z) "zip" := ⟨_, hz, rfl⟩
  refine wpAny_pyIter_slot hT F.slot_zip_iter (wpAny_call_entry F.slot_zip_iter hT F.entry_zip_iter ?_ (F.args_zip_iter_1 _))
  show wpAny _ _ (ret (.ref z)) _ _ s
  exact wpAny_pure ⟨_, rfl, "zip", _, hT, F.slot_zip_next.lookup, h⟩
end
section
variable {prog : Program} {w : World} {A : Around} {E : Value → Shared → Prop} {s : Shared} {z TI TO i1 i2 : Addr} {fp1 fp2 : List Addr} {n i : Nat} {P1 P2 : Nat → Value → Prop} {St1 St2 : Nat → Heap → Prop} {a1 a2 : Value}
theorem zy_next_item {Q : Value → Shared → Prop} (S : ZipSep2 z TI TO i1 i2 fp1 fp2) (D1 : Draws prog w A i1 fp1 n P1 St1) (D2 : Draws prog w A i2 fp2 n P2 St2)
    (hz : IsZipY s.heap z TI TO .none) (hTI : IsTupOf2 s.heap TI (.ref i1) (.ref i2)) (hTO : IsTupOf2 s.heap TO a1 a2) (st1 : St1 i s.heap) (st2 : St2 i s.heap) (hlt : i < n)
    (hQ : ∀ x1 x2 h' tk, P1 i x1 → P2 i x2 → IsZipY h' z TI TO (rawInt s.heap.objs.size) → IsTupOf2 h' TO x1 x2 → St1 (i + 1) h' → St2 (i + 1) h' → IsTupOf2 h' s.heap.objs.size x1 x2 → h'.objs.size = s.heap.objs.size + 1 →
      (∀ c o, c ≠ z → c ≠ TO → c ≠ i1 → c ≠ i2 → s.heap.get? c = some o → h'.get? c = some o) → Q (.ref s.heap.objs.size) { s with heap := h', toks := tk }) :
    wpAny (model prog w) A (Builtin.«zip.__next__» ⟨[.ref z], []⟩) (fun fin s' => ∃ v, fin = .done (.ret v) ∧ Q v s') E s := by
  obtain ⟨hp, g, d, tk0, os⟩ := s
  show wpAny _ _ (field (.ref z) 2 >>= _) _ _ _
  refine wpAny_bind (wpAny_field hz rfl (x := .bool true) rfl ?_)
  show wpAny _ _ (field (.ref z) 3 >>= _) _ _ _
  refine wpAny_bind (wpAny_field hz rfl (x := .ref TI) rfl ?_)
  refine wpAny_bind (wpAny_seqItems hTI rfl ?_)
  show wpAny _ _ (Builtin.SmallTypes.ownedTupleIsFree (.ref z) >>= _) _ _ _
  refine wpAny_bind ?_
  unfold Builtin.SmallTypes.ownedTupleIsFree
  refine wpAny_bind (wpAny_field hz rfl (x := .none) rfl (wpAny_pure ?_))
  simp only [if_true]
  refine wpAny_bind (wpAny_rule ?_)
  refine wpAny_bind (wpAny_field hz rfl (x := .ref TO) rfl ?_)
  refine wpAny_bind (wpAny_setField_rec hz (by simp) fun g0 hz0 hs0 => ?_)
  replace hz0 : IsZipY g0 z TI TO .ellipsis := hz0
  replace hs0 : Heap.SameBut z hp g0 := hs0
  refine wpAny_bind ?_
  simp only [List.zipIdx_cons, List.zipIdx_nil, List.forIn_cons, List.forIn_nil]
  refine wpAny_bind (wpAny_bind (wpAny_onRaise ?_))
  show wpAny _ _ (Builtin.SmallTypes.nextOrEnd (.ref i1)) _ _ ⟨g0, g, d, tk0, os⟩
  refine wpAny_orEnd_item D1 hlt (D1.over st1 hs0 S.zf1) fun x1 p1 tk1 hx1 sn1 hp1 => ?_
  replace hp1 : Heap.SameBut i1 g0 p1 := hp1
  have hU1 : IsTupOf2 p1 TO a1 a2 := hp1.extBut _ _ S.Ti1 (hs0.extBut _ _ S.TOz hTO)
  refine wpAny_bind (wpAny_seqItems (s := ⟨p1, g, d, tk1, os⟩) hU1 rfl ?_)
  refine wpAny_bind (updateSeq_IsTupOf2 (s := ⟨p1, g, d, tk1, os⟩) hU1 fun g1 hT1 hs1 => ?_)
  replace hT1 : IsTupOf2 g1 TO x1 a2 := hT1
  replace hs1 : Heap.SameBut TO p1 g1 := hs1
  refine wpAny_bind (wpAny_letGo (wpAny_pure ?_))
  refine wpAny_bind (wpAny_bind (wpAny_onRaise ?_))
  show wpAny _ _ (Builtin.SmallTypes.nextOrEnd (.ref i2)) _ _ ⟨g1, g, d, tk1, os⟩
  refine wpAny_orEnd_item D2 hlt (D2.over (D2.over (D2.over st2 hs0 S.zf2) hp1 S.sep1_2) hs1 S.Tf2) fun x2 p2 tk2 hx2 sn2 hp2 => ?_
  replace hp2 : Heap.SameBut i2 g1 p2 := hp2
  have hU2 : IsTupOf2 p2 TO x1 a2 := hp2.extBut _ _ S.Ti2 hT1
  refine wpAny_bind (wpAny_seqItems (s := ⟨p2, g, d, tk2, os⟩) hU2 rfl ?_)
  refine wpAny_bind (updateSeq_IsTupOf2 (s := ⟨p2, g, d, tk2, os⟩) hU2 fun g2 hT2 hs2 => ?_)
  replace hT2 : IsTupOf2 g2 TO x1 x2 := hT2
  replace hs2 : Heap.SameBut TO p2 g2 := hs2
  refine wpAny_bind (wpAny_letGo (wpAny_pure (wpAny_pure ?_)))
  refine wpAny_bind (wpAny_seqItems (s := ⟨g2, g, d, tk2, os⟩) hT2 rfl ?_)
  refine wpAny_bind (wpAny_newTuple ?_)
  have hsz : g2.objs.size = hp.objs.size := by rw [hs2.1, hp2.1, hs1.1, hp1.1, hs0.1]
  have hzz : IsZipY g2 z TI TO .ellipsis := (hs2.extBut _ _ S.TOz.symm (hp2.extBut _ _ S.zi2 (hs1.extBut _ _ S.TOz.symm (hp1.extBut _ _ S.zi1 hz0))))
  have hkk : ∀ c o, c ≠ z → c ≠ TO → c ≠ i1 → c ≠ i2 → hp.get? c = some o → g2.get? c = some o := fun c o cz cT c1 c2 e =>
    (hs2.extBut _ _ cT (hp2.extBut _ _ c2 (hs1.extBut _ _ cT (hp1.extBut _ _ c1 (hs0.extBut _ _ cz e)))))
  have hj1 : St1 (i + 1) g2 := (D1.over (D1.over (D1.over sn1 hs1 S.Tf1) hp2 S.sep2_1) hs2 S.Tf1)
  have hj2 : St2 (i + 1) g2 := (D2.over sn2 hs2 S.Tf2)
  have hzlt : z < g2.objs.size := Heap.lt_size hzz
  show wpAny _ _ (Builtin.SmallTypes.ownedTupleHandOut (.ref z) (.ref g2.objs.size) >>= _) _ _ ⟨g2.push { cls := .type "tuple", data := .seq #[x1, x2] }, g, d, tk2, os⟩
  refine wpAny_bind ?_
  unfold Builtin.SmallTypes.ownedTupleHandOut
  have hz6 : IsZipY (g2.push { cls := .type "tuple", data := .seq #[x1, x2] }) z TI TO .ellipsis := Heap.get?_push_of_some _ hzz
  refine wpAny_bind (wpAny_setField_rec hz6 (by simp) fun h7 hz7 hs7 => ?_)
  replace hz7 : IsZipY h7 z TI TO (rawInt g2.objs.size) := hz7
  refine wpAny_setField_rec hz7 (by simp) fun h8 hz8 hs8 => ?_
  replace hz8 : IsZipY h8 z TI TO (rawInt g2.objs.size) := hz8
  replace hs7 : Heap.SameBut z (g2.push { cls := .type "tuple", data := .seq #[x1, x2] }) h7 := hs7
  replace hs8 : Heap.SameBut z h7 h8 := hs8
  have up : ∀ c o, c ≠ z → g2.get? c = some o → h8.get? c = some o := fun c o c1 e => hs8.extBut _ _ c1 (hs7.extBut _ _ c1 (Heap.get?_push_of_some _ e))
  have hT8 : IsTupOf2 h8 g2.objs.size x1 x2 := hs8.extBut _ _ (Nat.ne_of_gt hzlt) (hs7.extBut _ _ (Nat.ne_of_gt hzlt) (Heap.get?_push_size _ rfl))
  have hzn : h8.objs.size = g2.objs.size + 1 := by rw [hs8.1, hs7.1, Heap.size_push]
  rw [hsz] at hz8 hT8 hzn
  refine wpAny_pure ⟨_, rfl, ?_⟩
  show Q (.ref g2.objs.size) ⟨h8, g, d, tk2, os⟩
  rw [hsz]
  exact hQ x1 x2 h8 tk2 hx1 hx2 hz8 (up _ _ S.TOz hT2) (D1.frame _ _ _ hj1 fun b hb o e => up b o (fun q => S.zf1 (q ▸ hb)) e) (D2.frame _ _ _ hj2 fun b hb o e => up b o (fun q => S.zf2 (q ▸ hb)) e) hT8 hzn fun c o cz cT c1 c2 e => up c o cz (hkk c o cz cT c1 c2 e)
theorem zy_next_end {Q : Fin → Shared → Prop} (hh : A.handled = none) (S : ZipSep2 z TI TO i1 i2 fp1 fp2) (D1 : Draws prog w A i1 fp1 n P1 St1) (D2 : Draws prog w A i2 fp2 n P2 St2)
    (hz : IsZipY s.heap z TI TO .none) (hTI : IsTupOf2 s.heap TI (.ref i1) (.ref i2)) (hTO : IsTupOf2 s.heap TO a1 a2) (st1 : St1 n s.heap) (st2 : St2 n s.heap)
    (hE : ∀ h' tk e, (∀ c o, c ≠ z → c ≠ TO → c ≠ i1 → c ≠ i2 → s.heap.get? c = some o → h'.get? c = some o) → (∃ o, h'.get? e = some o ∧ o.cls = .type "StopIteration") → E (.ref e) { s with heap := h', toks := tk }) :
    wpAny (model prog w) A (Builtin.«zip.__next__» ⟨[.ref z], []⟩) Q E s := by
  obtain ⟨hp, g, d, tk0, os⟩ := s
  show wpAny _ _ (field (.ref z) 2 >>= _) _ _ _
  refine wpAny_bind (wpAny_field hz rfl (x := .bool true) rfl ?_)
  show wpAny _ _ (field (.ref z) 3 >>= _) _ _ _
  refine wpAny_bind (wpAny_field hz rfl (x := .ref TI) rfl ?_)
  refine wpAny_bind (wpAny_seqItems hTI rfl ?_)
  show wpAny _ _ (Builtin.SmallTypes.ownedTupleIsFree (.ref z) >>= _) _ _ _
  refine wpAny_bind ?_
  unfold Builtin.SmallTypes.ownedTupleIsFree
  refine wpAny_bind (wpAny_field hz rfl (x := .none) rfl (wpAny_pure ?_))
  simp only [if_true]
  refine wpAny_bind (wpAny_rule ?_)
  refine wpAny_bind (wpAny_field hz rfl (x := .ref TO) rfl ?_)
  refine wpAny_bind (wpAny_setField_rec hz (by simp) fun g0 hz0 hs0 => ?_)
  replace hz0 : IsZipY g0 z TI TO .ellipsis := hz0
  replace hs0 : Heap.SameBut z hp g0 := hs0
  refine wpAny_bind ?_
  simp only [List.zipIdx_cons, List.zipIdx_nil, List.forIn_cons, List.forIn_nil]
  refine wpAny_bind (wpAny_bind (wpAny_onRaise ?_))
  show wpAny _ _ (Builtin.SmallTypes.nextOrEnd (.ref i1)) _ _ ⟨g0, g, d, tk0, os⟩
  refine wpAny_orEnd_done D1 (D1.over st1 hs0 S.zf1) fun q hq => ?_
  replace hq : Heap.ExtBut i1 g0 q := hq
  have hzq : IsZipY q z TI TO .ellipsis := hq _ _ S.zi1 hz0
  refine wpAny_bind (wpAny_setField_rec (s := ⟨q, g, d, tk0, os⟩) hzq (by simp) fun q1 _ hq1 => ?_)
  replace hq1 : Heap.SameBut z q q1 := hq1
  refine wpAny_bind ?_
  show wpAny _ _ (forIn [((.ref i2 : Value), 1)] PUnit.unit _ >>= _) _ _ ⟨q1, g, d, tk0, os⟩
  refine wpAny_bind ?_
  simp only [List.forIn_cons, List.forIn_nil]
  refine wpAny_bind ?_
  refine wpAny_bind ?_
  refine wpAny_orEnd_done D2 (D2.frame _ _ _ st2 fun b hb o e => hq1.extBut b o (fun x => S.zf2 (x ▸ hb)) (hq b o (fun x => S.sep1_2 (x ▸ hb)) (hs0.extBut b o (fun x => S.zf2 (x ▸ hb)) e))) fun r hr => ?_
  replace hr : Heap.ExtBut i2 q1 r := hr
  simp only [Option.isSome_none, Bool.false_eq_true, if_false]
  refine wpAny_pure (wpAny_pure (wpAny_bind (wpAny_rule ?_)))
  refine wpAny_stopIt (s := ⟨r, g, d, tk0, os⟩) hh fun h' e k he => ?_
  exact hE h' tk0 e (fun c o cz cT c1 c2 x => k c o (hr _ _ c2 (hq1.extBut _ _ cz (hq _ _ c1 (hs0.extBut _ _ cz x))))) he
theorem zy_pyNext_item {Q : Option Value → Shared → Prop} (S : ZipSep2 z TI TO i1 i2 fp1 fp2) (D1 : Draws prog w A.in1 i1 fp1 n P1 St1) (D2 : Draws prog w A.in1 i2 fp2 n P2 St2)
    (hz : IsZipY s.heap z TI TO .none) (hTI : IsTupOf2 s.heap TI (.ref i1) (.ref i2)) (hTO : IsTupOf2 s.heap TO a1 a2) (st1 : St1 i s.heap) (st2 : St2 i s.heap) (hlt : i < n)
    (hQ : ∀ x1 x2 h' tk, P1 i x1 → P2 i x2 → IsZipY h' z TI TO (rawInt s.heap.objs.size) → IsTupOf2 h' TO x1 x2 → St1 (i + 1) h' → St2 (i + 1) h' → IsTupOf2 h' s.heap.objs.size x1 x2 → h'.objs.size = s.heap.objs.size + 1 →
      (∀ c o, c ≠ z → c ≠ TO → c ≠ i1 → c ≠ i2 → s.heap.get? c = some o → h'.get? c = some o) → Q (some (.ref s.heap.objs.size)) { s with heap := h', toks := tk }) :
    wpAny (model prog w) A (pyNext (.ref z)) Q E s := by
  have hT : s.TypeIs (.ref z) "zip" := ⟨_, hz, rfl⟩
  unfold pyNext
  exact wpAny_bind (wpAny_attempt (wpAny_callSpecial?_slot (name := Str.ofString "__next__") hT F.slot_zip_next
    (wpAny_call_entry F.slot_zip_next hT F.entry_zip_next
      (zy_next_item S D1 D2 hz hTI hTO st1 st2 hlt fun x1 x2 h' tk y1 y2 b1 b2 d1 d2 b5 b6 b7 => wpAny_pure (hQ x1 x2 h' tk y1 y2 b1 b2 d1 d2 b5 b6 b7)) (F.args_zip_next_1 _))))
theorem zy_pyNext_end {Q : Option Value → Shared → Prop} (hh : A.handled = none) (S : ZipSep2 z TI TO i1 i2 fp1 fp2) (D1 : Draws prog w A.in1 i1 fp1 n P1 St1) (D2 : Draws prog w A.in1 i2 fp2 n P2 St2)
    (hz : IsZipY s.heap z TI TO .none) (hTI : IsTupOf2 s.heap TI (.ref i1) (.ref i2)) (hTO : IsTupOf2 s.heap TO a1 a2) (st1 : St1 n s.heap) (st2 : St2 n s.heap)
    (hQ : ∀ h' tk, (∀ c o, c ≠ z → c ≠ TO → c ≠ i1 → c ≠ i2 → s.heap.get? c = some o → h'.get? c = some o) → Q none { s with heap := h', toks := tk }) : wpAny (model prog w) A (pyNext (.ref z)) Q E s := by
  have hT : s.TypeIs (.ref z) "zip" := ⟨_, hz, rfl⟩
  unfold pyNext
  refine wpAny_bind (wpAny_attempt (wpAny_callSpecial?_slot (name := Str.ofString "__next__") hT F.slot_zip_next
    (wpAny_call_entry F.slot_zip_next hT F.entry_zip_next (zy_next_end (A := A.in1) hh S D1 D2 hz hTI hTO st1 st2 fun h' tk e hk he => ?_) (F.args_zip_next_1 _))))
  obtain ⟨o, ho, hc⟩ := he
  refine wpAny_bind (wpAny_isInstance (T := "StopIteration") (b := true) ⟨o, ho, hc⟩ isSubtype_stop ?_)
  exact wpAny_pure (hQ _ _ hk)
end
namespace F
theorem typeCall_zip_strict (a b c : Value) : checkTypeCall "zip" ⟨[a, b], [(Str.ofString "strict", c)]⟩ = pure () := by kernel_rfl
theorem newCall_zip_strict (a b c : Value) : checkBuiltinCall "zip.__new__" ⟨[.type "zip", a, b], [(Str.ofString "strict", c)]⟩ = pure () := by kernel_rfl
theorem args_object_init_strict (obj a b c : Value) : argsOk "object.__init__" ⟨[obj, a, b], [(Str.ofString "strict", c)]⟩ := by unfold argsOk; kernel_rfl
end F
abbrev gyT2 (h : Heap) (o1 o2 : Obj) : Heap := ((h.push o1).push o2).push { cls := .type "tuple", data := .seq #[.ref h.objs.size, .ref (h.push o1).objs.size] }
abbrev gyO2 (h : Heap) (o1 o2 : Obj) : Heap := (gyT2 h o1 o2).push { cls := .type "tuple", data := .seq #[.none, .none] }
abbrev gyZ2 (h : Heap) (o1 o2 : Obj) : Heap := (gyO2 h o1 o2).push { cls := .type "zip", data := .fields #[.none, .bool false, .bool true, .ref ((h.push o1).push o2).objs.size, .ref (gyT2 h o1 o2).objs.size] }
theorem meets_zip_newY {v1 v2 : Value} {o1 o2 : Obj} {H1 H2 : Heap → Prop} (B1 : Begins v1 o1 H1) (B2 : Begins v2 o2 H2) :
    Meets (Builtin.«zip.__new__» ⟨[.type "zip", v1, v2], [(Str.ofString "strict", .bool true)]⟩) (fun _ R s => (H1 s.heap ∧ H2 s.heap) ∧
      R (.ok (.ret (.ref (gyO2 s.heap o1 o2).objs.size))) { s with heap := gyZ2 s.heap o1 o2 }) :=
  .of_wp fun prog w A R s h => by
    obtain ⟨hp, g, d, tk, os⟩ := s; obtain ⟨⟨h1, h2⟩, h⟩ := h
    have hsub := sub_zip
    have e2 : (Str.ofString "strict" != ("strict" : Str)) = false := by decide +kernel
    have q1 : ∀ {A' : Around} {E : Value → Shared → Prop} {Q : Value → Shared → Prop}, Q (.ref hp.objs.size) ⟨(hp.push o1), g, d, tk, os⟩ → wpAny (model prog w) A' (pyIter v1) Q E ⟨hp, g, d, tk, os⟩ :=
      fun q => B1.iter prog w _ _ ⟨hp, g, d, tk, os⟩ _ (B1.keeps _ _ h1 fun b o' e => e) q
    have q2 : ∀ {A' : Around} {E : Value → Shared → Prop} {Q : Value → Shared → Prop}, Q (.ref (hp.push o1).objs.size) ⟨((hp.push o1).push o2), g, d, tk, os⟩ → wpAny (model prog w) A' (pyIter v2) Q E ⟨(hp.push o1), g, d, tk, os⟩ :=
      fun q => B2.iter prog w _ _ ⟨(hp.push o1), g, d, tk, os⟩ _ (B2.keeps _ _ h2 fun b o' e => (Heap.get?_push_of_some _ e)) q
    wp_walk using q1, q2
    exact ⟨_, rfl, h⟩
section
variable {prog : Program} {w : World} {A : Around} {E : Value → Shared → Prop} {s : Shared}
theorem zipY_begins2 {v1 v2 : Value} {o1 o2 : Obj} {H1 H2 : Heap → Prop} {Q : Value → Shared → Prop} (B1 : Begins v1 o1 H1) (B2 : Begins v2 o2 H2) (h1 : H1 s.heap) (h2 : H2 s.heap)
    (h : ∀ h', IsZipY h' (s.heap.objs.size + 4) (s.heap.objs.size + 2) (s.heap.objs.size + 3) .none → IsTupOf2 h' (s.heap.objs.size + 2) (.ref s.heap.objs.size) (.ref (s.heap.objs.size + 1)) →
      IsTupOf2 h' (s.heap.objs.size + 3) .none .none → h'.get? s.heap.objs.size = some o1 → h'.get? (s.heap.objs.size + 1) = some o2 → h'.objs.size = s.heap.objs.size + 5 →
      (∀ c o, s.heap.get? c = some o → h'.get? c = some o) → Q (.ref (s.heap.objs.size + 4)) { s with heap := h' }) :
    wpAny (model prog w) A (call (.type "zip") [v1, v2] [(Str.ofString "strict", .bool true)]) Q E s := by
  refine callType_newKw F.called_zip (by decide) (F.typeCall_zip_strict _ _ _) (F.newCall_zip_strict _ _ _) (fun obj => F.args_object_init_strict obj _ _ _) F.entry_zip_new
    (meets_zip_newY B1 B2) ⟨⟨h1, h2⟩, ?_⟩
  have z1 : (s.heap.push o1).objs.size = s.heap.objs.size + 1 := by rw [Heap.size_push]
  have z2 : ((s.heap.push o1).push o2).objs.size = s.heap.objs.size + 2 := by rw [Heap.size_push, z1]
  have zT : (gyT2 s.heap o1 o2).objs.size = s.heap.objs.size + 3 := by rw [Heap.size_push, z2]
  have zO : (gyO2 s.heap o1 o2).objs.size = s.heap.objs.size + 4 := by rw [Heap.size_push, zT]
  have zZ : (gyZ2 s.heap o1 o2).objs.size = s.heap.objs.size + 5 := by rw [Heap.size_push, zO]
  have gZ : (gyZ2 s.heap o1 o2).get? (gyO2 s.heap o1 o2).objs.size = some { cls := .type "zip", data := .fields #[.none, .bool false, .bool true, .ref ((s.heap.push o1).push o2).objs.size, .ref (gyT2 s.heap o1 o2).objs.size] } := Heap.get?_push_size _ rfl
  have gO : (gyZ2 s.heap o1 o2).get? (gyT2 s.heap o1 o2).objs.size = some { cls := .type "tuple", data := .seq #[.none, .none] } := Heap.get?_push_of_some _ (Heap.get?_push_size _ rfl)
  have gT : (gyZ2 s.heap o1 o2).get? ((s.heap.push o1).push o2).objs.size = some { cls := .type "tuple", data := .seq #[.ref s.heap.objs.size, .ref (s.heap.push o1).objs.size] } := Heap.get?_push_of_some _ (Heap.get?_push_of_some _ (Heap.get?_push_size _ rfl))
  have g1 : (gyZ2 s.heap o1 o2).get? s.heap.objs.size = some o1 := Heap.get?_push_of_some _ (Heap.get?_push_of_some _ (Heap.get?_push_of_some _ (Heap.get?_push_of_some _ (Heap.get?_push_size _ B1.free))))
  have g2 : (gyZ2 s.heap o1 o2).get? (s.heap.push o1).objs.size = some o2 := Heap.get?_push_of_some _ (Heap.get?_push_of_some _ (Heap.get?_push_of_some _ (Heap.get?_push_size _ B2.free)))
  rw [zO, zT, z2] at gZ
  rw [zT] at gO
  rw [z2, z1] at gT
  rw [z1] at g2
  show _ ∧ _
  rw [zO]
  exact ⟨⟨_, gZ, rfl⟩, h _ gZ gT gO g1 g2 zZ fun c o e => Heap.get?_push_of_some _ (Heap.get?_push_of_some _ (Heap.get?_push_of_some _ (Heap.get?_push_of_some _ (Heap.get?_push_of_some _ e))))⟩
end
end PySem
end
section
set_option Elab.async false
set_option linter.all false
set_option maxRecDepth 100000
set_option maxHeartbeats 4000000
/-! for x, y in zip(t, l, strict=True): over the layer, over data. -/
namespace DL
open PySem PySem.Spec PyProof.Rows L2
/-- a tuple and a list of one length -/
def ItzY (K : PySem.W.Frag) (a b : Addr) (n : Nat) : It :=
  ⟨fun i H => i < n ∧ ∃ (xs ys : List V), SqT K H a xs ∧ SqL K H b ys ∧ xs.length = n ∧ ys.length = n,
    fun i H v H' => ∃ T x y, v = .ref T ∧ H T = none ∧ H' = upd H T (.tup [x, y]) ∧ (∀ xs, SqT K H a xs → xs[i]? = some x) ∧ ∀ ys, SqL K H b ys → ys[i]? = some y,
    fun i H => n ≤ i ∧ ∃ xs ys : List V, SqT K H a xs ∧ SqL K H b ys ∧ xs.length = n ∧ ys.length = n⟩
theorem turn_zipY {P : Program} {w : World} {K : PySem.W.Frag} {elts : List Expr} {kk : Nat} {tpos : Pos} {a b z TI TO i1 i2 : Addr} {n : Nat} (S : ZipSep2 z TI TO i1 i2 [i1, a] [i2, b]) (ha1 : a ≠ i1) (hb2 : b ≠ i2) :
    Turn P w K (.Tuple elts kk tpos) (ItzY K a b n) [z, TI, TO, i1, i2] z (fun i h => i ≤ n ∧ IsZipY h z TI TO .none ∧ IsTupOf2 h TI (.ref i1) (.ref i2) ∧ (∃ x y, IsTupOf2 h TO x y) ∧ h.IsTupleIter i1 a i ∧ h.IsListIter i2 b i) where
  mem := by simp
  obj := fun i h st c hc => by
    obtain ⟨_, hz, hTI, ⟨x, y, hTO⟩, ⟨o1, e1, _, d1⟩, ⟨o2, e2, _, d2⟩⟩ := st
    have e' : c = z ∨ c = TI ∨ c = TO ∨ c = i1 ∨ c = i2 := by simpa using hc
    rcases e' with q | q | q | q | q
    · rw [q]; exact ⟨_, hz, fun v q => nomatch q⟩
    · rw [q]; exact ⟨_, hTI, fun v q => nomatch q⟩
    · rw [q]; exact ⟨_, hTO, fun v q => nomatch q⟩
    · rw [q]; exact ⟨o1, e1, fun v q => by rw [d1] at q; cases q⟩
    · rw [q]; exact ⟨o2, e2, fun v q => by rw [d2] at q; cases q⟩
  keep := fun i h h' st k => by
    obtain ⟨hn, hz, hTI, ⟨x, y, hTO⟩, h1, h2⟩ := st
    exact ⟨hn, k z (by simp) _ hz, k TI (by simp) _ hTI, ⟨x, y, k TO (by simp) _ hTO⟩, h1.at fun o q => k i1 (by simp) o q, h2.at fun o q => k i2 (by simp) o q⟩
  item := by
    intro X hP hw hK hc i pins s σ H E I hf st hg
    subst hP hw hK
    obtain ⟨hn, hz, hTI, ⟨x0, y0, hTO⟩, h1, h2⟩ := st
    obtain ⟨hlt, xs, ys, hqx, hqy, lx, ly⟩ := hg
    obtain ⟨its, rv, p, _⟩ := I.tuple hqx
    obtain ⟨its2, rv2, p2, _⟩ := I.list hqy
    have s1 : its.toArray.size = n := by rw [List.size_toArray, ← rv.length]; exact lx
    have s2 : its2.toArray.size = n := by rw [List.size_toArray, ← rv2.length]; exact ly
    have hzl : z < s.heap.objs.size := Heap.lt_size hz
    have D1 := PySem.Draws.tuple (prog := X.prog) (w := X.w) (A := X.A.in1) (I.ok.hd hc) i1 a ha1 its.toArray
    have D2 := PySem.Draws.list (prog := X.prog) (w := X.w) (A := X.A.in1) (I.ok.hd hc) i2 b hb2 its2.toArray
    rw [s1] at D1
    rw [s2] at D2
    refine zy_pyNext_item S D1 D2 hz hTI hTO ⟨h1, p⟩ ⟨h2, p2.isList⟩ hlt fun u u2 h' tk hu hu2 z' TO' h1' h2' hT hsz hk => ?_
    obtain ⟨x, hx⟩ : ∃ x, xs[i]? = some x := ⟨_, List.getElem?_eq_getElem (by rw [lx]; exact hlt)⟩
    obtain ⟨y, hy⟩ : ∃ y, ys[i]? = some y := ⟨_, List.getElem?_eq_getElem (by rw [ly]; exact hlt)⟩
    obtain ⟨u', e1, ru⟩ := rv.get hx
    obtain ⟨u2', e2, ru2⟩ := rv2.get hy
    have hu : its.toArray[i]? = some u := hu
    have hu2 : its2.toArray[i]? = some u2 := hu2
    obtain rfl : u' = u := by
      have : its[i]? = some u := by simpa using hu
      rw [e1] at this
      exact Option.some.inj this
    obtain rfl : u2' = u2 := by
      have : its2[i]? = some u2 := by simpa using hu2
      rw [e2] at this
      exact Option.some.inj this
    refine ⟨_, rfl, wpAny_letOwnedTupleGo_zipY (s := { s with heap := h', toks := tk }) z' fun h'' z'' sb => ?_⟩
    have hT2 : h''.get? s.heap.objs.size = some { cls := .type "tuple", data := .seq #[u', u2'] } := (sb.2 _ (Nat.ne_of_gt hzl)).trans hT
    have new : ObjOk X.prog X.w (upd H s.heap.objs.size (.tup [x, y])) h'' s.heap.objs.size (.tup [x, y]) :=
      ⟨by show 2 ≤ sizeLine; decide, [u', u2'], .cons ru (.cons ru2 .nil), ⟨_, hT2, rfl, _, rfl⟩⟩
    have I1 : Inv X pins σ (upd H s.heap.objs.size (.tup [x, y])) { s with heap := h'', toks := tk } :=
      I.turnedNew (t' := tk) (ch := [z, TI, TO, i1, i2]) (fun c o hb q => (sb.2 c (fun q' => hb (by simp [q']))).trans (hk c o (fun q' => hb (by simp [q'])) (fun q' => hb (by simp [q'])) (fun q' => hb (by simp [q'])) (fun q' => hb (by simp [q'])) q)) hf (Nat.le_refl _) new
    refine ⟨.ref s.heap.objs.size, _, I1, rfl, ⟨_, x, y, rfl, I.hok.fresh (Nat.le_refl _), rfl, fun l hl => by rw [I.tuple_inj hl hqx]; exact hx, fun l hl => by rw [I.list_inj hl hqy]; exact hy⟩, ⟨hlt, z'', ?_, ⟨u', u2', ?_⟩, ?_, ?_⟩, fun c hcm => ?_⟩
    · exact (sb.2 _ S.TIz).trans (hk _ _ S.TIz S.TITO S.TIi1 S.TIi2 hTI)
    · exact (sb.2 _ S.TOz).trans TO'
    · exact h1'.1.at fun o q => (sb.2 _ S.zi1.symm).trans q
    · exact h2'.1.at fun o q => (sb.2 _ S.zi2.symm).trans q
    · have hlt : c < s.heap.objs.size := by
        have e' : c = z ∨ c = TI ∨ c = TO ∨ c = i1 ∨ c = i2 := by simpa using hcm
        rcases e' with q | q | q | q | q
        · rw [q]; exact hzl
        · rw [q]; exact Heap.lt_size hTI
        · rw [q]; exact Heap.lt_size hTO
        · rw [q]; obtain ⟨_, e1, _⟩ := h1; exact Heap.lt_size e1
        · rw [q]; obtain ⟨_, e2, _⟩ := h2; exact Heap.lt_size e2
      rw [upd_ne (Nat.ne_of_lt hlt)]
      exact (hf c hcm).1
  done := by
    intro X hP hw hK hc i pins s σ H E I hf st hg
    subst hP hw hK
    obtain ⟨hn, hz, hTI, ⟨x0, y0, hTO⟩, h1, h2⟩ := st
    obtain ⟨hge, xs, ys, hqx, hqy, lx, ly⟩ := hg
    obtain ⟨its, rv, p, _⟩ := I.tuple hqx
    obtain ⟨its2, rv2, p2, _⟩ := I.list hqy
    have s1 : its.toArray.size = n := by rw [List.size_toArray, ← rv.length]; exact lx
    have s2 : its2.toArray.size = n := by rw [List.size_toArray, ← rv2.length]; exact ly
    obtain rfl : i = n := Nat.le_antisymm hn hge
    have D1 := PySem.Draws.tuple (prog := X.prog) (w := X.w) (A := X.A.in1) (I.ok.hd hc) i1 a ha1 its.toArray
    have D2 := PySem.Draws.list (prog := X.prog) (w := X.w) (A := X.A.in1) (I.ok.hd hc) i2 b hb2 its2.toArray
    rw [s1] at D1
    rw [s2] at D2
    exact zy_pyNext_end (I.ok.hd hc) S D1 D2 hz hTI hTO ⟨h1, p⟩ ⟨h2, p2.isList⟩ fun h' tk hk => ⟨rfl, I.turnedL (t' := tk) (ch := [z, TI, TO, i1, i2]) (fun c o hb q =>
      hk c o (fun q' => hb (by simp [q'])) (fun q' => hb (by simp [q'])) (fun q' => hb (by simp [q'])) (fun q' => hb (by simp [q'])) q) hf⟩
  self := fun A i s Q E st h => wpAny_pyIter_zipY st.2.1 h
section
variable {M : Model} {A : Around} {E : Value → Shared → Prop} {s : Shared} {env : Env}
theorem callWith_type_kw {pos : Pos} {T : String} {e : Expr} {rest : List Expr} {kws : List Keyword} {Q : Value → Shared → Prop}
    (h : wpAny M A (spliced (backTo pos (starEach (e :: rest) env))) (fun vs s₁ => wpAny M A (evalAll ((backToKw pos (keywordEach kws env)).map (·.2)))
      (fun kvs s₂ => wpAny M A (call (.type T) vs (((backToKw pos (keywordEach kws env)).filterMap (·.1)).zip kvs)) Q E s₂) E s₁) E s)
    (he : backTo pos (starEach (e :: rest) env) = (false, eval e env) :: backTo pos (starEach rest env) := by rfl)
    (hplain : (backTo pos (starEach (e :: rest) env)).any (·.1) = false := by rfl)
    (hall : (backToKw pos (keywordEach kws env)).all (·.1.isSome) = true := by rfl)
    (hkw : (backToKw pos (keywordEach kws env)).any (·.1.isNone) = false := by rfl) :
    wpAny M A (callWith pos (.type T) [] (backTo pos (starEach (e :: rest) env)) (backToKw pos (keywordEach kws env))) Q E s := by
  unfold callWith
  refine wpAny_bind (wpAny_holding ?_)
  rw [he] at h ⊢
  refine wpAny_mono (evalArgs_kwB (Q := fun a s₁ => wpAny M A (call (.type T) ([] ++ a.pos) a.kw) Q E s₁) hall h) (fun a s₁ h₁ => wpAny_bind (wpAny_standAt ?_)) fun _ _ x => x
  rw [he] at hplain
  simp only [hplain, hkw, Bool.or_false]
  refine wpAny_bind (wpAny_pure ?_)
  exact wpAny_bind (wpAny_mono h₁ (fun r s₂ hr => wpAny_bind (wpAny_holding (wpAny_point (wpAny_pure hr)))) fun _ _ x => x)
end
section
variable {X : Cx}
def iZipY (K : PySem.W.Frag) (ta : TA) : TI := fun σ H R => ta σ H fun vs H1 => ∃ a b xs ys n, vs = [.ref a, .ref b] ∧ SqT K H1 a xs ∧ SqL K H1 b ys ∧ xs.length = n ∧ ys.length = n ∧ R (ItzY K a b n) H1
theorem pi_zipY {e e2 : Expr} {ta : TA} {p pos tpos kp kpos : Pos} {j} {elts : List Expr} {kk : Nat} (hg : Gl X "zip") (hm : X.mg "zip" = none) (ha : PA X [e, e2] ta)
    (he : backTo pos (starEach [e, e2] X.env) = (false, eval e X.env) :: backTo pos (starEach [e2] X.env) := by rfl)
    (hplain : (backTo pos (starEach [e, e2] X.env)).any (·.1) = false := by rfl) :
    PI X (.Tuple elts kk tpos) (.Call (.Name "zip" p) [e, e2] [⟨some "strict", .Constant (.bool true) j kp, kpos⟩] pos) (iZipY X.K ta) := by
  refine ⟨fun pins s σ H R I h => ?_⟩
  refine wpAny_Call_Name_kw (ld_blt I hg hm PyProof.Rows.boot_zip ?_)
  refine callWith_type_kw (thn (ha.run pos pins s σ H _ I h) fun us s1 ⟨vs, H1, I1, r1, q1⟩ => ?_) he hplain
  refine kws_cons (thn ((pe_bl (X := X)).run pins s1 σ H1 (fun v H2 => v = .bl true ∧ H2 = H1) I1 ⟨rfl, rfl⟩) fun u s2 ⟨v, H2, I2, r2, ev, eH⟩ => kws_nil ?_)
  subst ev eH
  obtain rfl : u = Value.bool true := r2
  obtain ⟨a, b, xs, ys, n, ex, hqx, hqy, lx, ly, q⟩ := q1
  subst ex
  cases r1 with
  | cons r rr =>
    cases rr with
    | cons r' rr =>
      cases rr
      cases r
      cases r'
      have fresh5 : ∀ c, c ∈ [s2.heap.objs.size + 4, s2.heap.objs.size + 2, s2.heap.objs.size + 3, s2.heap.objs.size, s2.heap.objs.size + 1] → FpOk X pins H2 c := fun c hcm => by
        have e' : c = s2.heap.objs.size + 4 ∨ c = s2.heap.objs.size + 2 ∨ c = s2.heap.objs.size + 3 ∨ c = s2.heap.objs.size ∨ c = s2.heap.objs.size + 1 := by simpa using hcm
        have hle : s2.heap.objs.size ≤ c := by
          rcases e' with z | z | z | z | z
          · rw [z]; exact Nat.le_add_right _ _
          · rw [z]; exact Nat.le_add_right _ _
          · rw [z]; exact Nat.le_add_right _ _
          · rw [z]; exact Nat.le_refl _
          · rw [z]; exact Nat.le_add_right _ _
        exact I2.fpOk hle (I2.hok.fresh hle)
      obtain ⟨its, rv, p1, _⟩ := I2.tuple hqx
      obtain ⟨its2, rv2, p2, _⟩ := I2.list hqy
      obtain ⟨o1, ho1, _⟩ := id p1
      obtain ⟨o2, ho2, _⟩ := id p2.isList
      have la := Heap.lt_size ho1
      have lb := Heap.lt_size ho2
      refine PySem.zipY_begins2 (PySem.begins_tuple a its.toArray) (PySem.begins_list b its2.toArray) p1 p2.isList fun h' hz hTI hTO h1 h2 hsz hk => wpAny_pyIter_zipY hz ?_
      have I3 : Inv X pins σ H2 { s2 with heap := h' } := I2.kept (t' := s2.toks) hk
      exact ⟨s2.heap.objs.size + 4, [s2.heap.objs.size + 4, s2.heap.objs.size + 2, s2.heap.objs.size + 3, s2.heap.objs.size, s2.heap.objs.size + 1], _, _, H2, rfl, I3,
        turn_zipY (PySem.zip_sep2 (N := s2.heap.objs.size) (fp1 := [a]) (fp2 := [b]) (by simpa using la) (by simpa using lb)) (Nat.ne_of_lt la) (Nat.ne_of_lt (Nat.lt_succ_of_lt lb)), ⟨Nat.zero_le _, hz, hTI, ⟨_, _, hTO⟩, ⟨_, h1, rfl, rfl⟩, ⟨_, h2, rfl, rfl⟩⟩, fresh5, q⟩
theorem itd_zipY {a b : Addr} {l m : List D} (hl : l.length = m.length) : ItD X (ItzY X.K a b l.length) (zipD l m) (fun G => lstAt G b = some m) (fun H => ∃ vs, SqT X.K H a vs ∧ Rvs X.K X.m H l vs) where
  stop := fun i H G rg e2 ⟨xs, h1, h2⟩ hn => by
    obtain ⟨ys, g1, g2, _⟩ := rg.lst e2
    refine ⟨?_, xs, ys, h1, g1, h2.length.symm, by rw [← g2.length, hl]⟩
    have := zip_len hn
    omega
  go := fun i H G d rg e2 ⟨xs, h1, h2⟩ hd => by
    obtain ⟨ys, g1, g2, _⟩ := rg.lst e2
    obtain ⟨x, y, q1, q2, _⟩ := zip_get hd
    exact ⟨(List.getElem?_eq_some_iff.mp q1).1, xs, ys, h1, g1, h2.length.symm, by rw [← g2.length, hl]⟩
  yld := fun i H G d x H' rg e2 ⟨xs, h1, h2⟩ hd hy => by
    obtain ⟨T, v, w, rfl, nT, rfl, k1, k2⟩ := hy
    obtain ⟨ys, g1, g2, _⟩ := rg.lst e2
    obtain ⟨x, y, q1, q2, rfl⟩ := zip_get hd
    obtain ⟨v', ev, r1⟩ := h2.get q1
    obtain ⟨w', ew, r2⟩ := g2.get q2
    have z1 := k1 xs h1
    have z2 := k2 ys g1
    rw [ev] at z1
    rw [ew] at z2
    cases z1
    cases z2
    exact pair_new rg nT r1 r2
  hk := fun G G' H H' rg f ⟨xs, h1, h2⟩ => ⟨xs, (f.keep rg).tup _ _ h1, h2.mono (f.keep rg)⟩
def dZipY (t : TDA) : TDI := fun env G R => t env G fun ds G1 => ∃ b l m, ds = [.tup l, .ref b] ∧ lstAt G1 b = some m ∧ l.length = m.length ∧ R (zipD l m) (fun G => lstAt G b = some m) G1
theorem di_zipY {e e2 : Expr} {ta : TDA} {p pos tpos kp kpos : Pos} {j} {elts : List Expr} {kk : Nat} (hg : Gl X "zip") (hm : X.mg "zip" = none) (ha : DA X [e, e2] ta)
    (he : backTo pos (starEach [e, e2] X.env) = (false, eval e X.env) :: backTo pos (starEach [e2] X.env) := by rfl)
    (hplain : (backTo pos (starEach [e, e2] X.env)).any (·.1) = false := by rfl) :
    DI X (.Tuple elts kk tpos) (.Call (.Name "zip" p) [e, e2] [⟨some "strict", .Constant (.bool true) j kp, kpos⟩] pos) (dZipY ta) :=
  PI.mono (pi_zipY hg hm ha he hplain) fun σ H R ⟨env, G, Q, rs, rg, h, k⟩ => ⟨env, G, _, rs, rg, h, fun ds G1 vs H1 ⟨b, l, m, e, e2, hl, q⟩ r rg1 f => by
    subst e
    obtain ⟨v, w, rfl, rv, rw'⟩ := two_inv r
    obtain ⟨a, xs, rfl, h1, h2, h3⟩ := rv_tup_inv rv
    rw [rv_ref_inv rw']
    obtain ⟨ys, g1, g2, _⟩ := rg1.lst e2
    exact ⟨a, b, xs, ys, l.length, rfl, h1, g1, h2.length.symm, by rw [← g2.length, hl], k _ _ _ G1 _ H1 q (itd_zipY hl) ⟨xs, h1, h2⟩ rg1 f (zipD_le h3)⟩⟩
end
end DL
end
section
set_option Elab.async false
set_option linter.all false
set_option maxRecDepth 100000
set_option maxHeartbeats 4000000
/-! repr of a tuple or a list of data, where no repr is under way. -/
namespace DL
open PySem PySem.Spec PyProof.Rows L2
section
variable {X : Cx}
def rRepr (K : PySem.W.Frag) : List V → Hp → VK → Prop := fun xs H Q => ∃ (a : Addr) (d : PyData), xs = [.ref a] ∧ Dp K H (.ref a) d ∧ d.showable = true ∧ d.hasDict = false ∧ d.depth ≤ 60 ∧ d.shown.length ≤ sizeLine ∧ Q (.str d.shown) H
theorem call_reprD (hg : X.A.guards = some []) (hu : X.A.units + 64 < cLine) : CallR X (.builtin "repr") (rRepr X.K) := by
  intro pins s σ H xs us Q I r h
  obtain ⟨a, d, rfl, hd, hs, hn, hp, hz, q⟩ := h
  obtain ⟨u, rfl, ru⟩ := vals1 r
  obtain ⟨as, rd⟩ := Dp.reads I d _ u hd ru
  obtain rfl : u = Value.ref a := ru
  refine PySem.repr_of_reads' rd hs (PyData.noDict_hsm hn) hg (by omega) (fun _ _ e => e) (fun h' t tk hk => ?_) hz
  exact ⟨.str d.shown, H, I.kept (t' := tk) hk, ⟨_, rfl⟩, q⟩
def oRepr : OC := fun ds G Q => ∃ d p, ds = [d] ∧ ((∃ l, d = .tup l) ∨ ∃ a, d = .ref a) ∧ Seen G d p ∧ p.showable = true ∧ p.hasDict = false ∧ p.shown.length ≤ sizeLine ∧ Q (.str p.shown) G
theorem oRepr_s : CaS X oRepr (rRepr X.K) := fun ds G Q vs H Qv ⟨d, p, e, hd, hs, h1, h2, h3, q⟩ r rg k => by
  subst e
  obtain ⟨v, rfl, rv⟩ := one_inv r
  obtain ⟨a1, a2, a3⟩ := hs.dp rg rv
  have ev : ∃ a, v = .ref a := by
    rcases hd with ⟨l, rfl⟩ | ⟨a, rfl⟩
    · obtain ⟨a, vs, rfl, _⟩ := rv_tup_inv rv
      exact ⟨a, rfl⟩
    · exact ⟨a, rv_ref_inv rv⟩
  obtain ⟨a, rfl⟩ := ev
  exact ⟨a, p, rfl, a1, h1, h2, by omega, h3, k _ G _ H q rv_str rg (Fr.refl _ _)⟩
end
end DL
end
section
set_option Elab.async false
set_option linter.all false
set_option maxRecDepth 100000
set_option maxHeartbeats 4000000
/-! The end of a law whose def is asked at the law's caller alone (where no repr is under way); one code object with its table. -/
namespace DL
open PySem PySem.Spec PyProof.Rows L2 LamX
/-- a def's promise at the law's caller -/
def FnAt (P : Program) (w : World) (K : PySem.W.Frag) (mg : Str → Option Value) (base : Heap) (CX : CXT) (f : Addr) (fd : FuncData) (x : Str) (sp : Sp) : Prop :=
  ∀ (s : Shared) (H : Hp) (u : Value) (v : V) (Q : VK), Env0 P w K mg base callerA [] s H → BindsTo s fd ⟨[u], []⟩ [(x, u)] → RelV v u → sp [v] H Q E0 →
    codeAny (model P w) callerA (.call (.ref f) ⟨[u], []⟩) (CR CX [] P w H s Q E0) s
theorem at_of {P : Program} {w : World} {K : PySem.W.Frag} {mg : Str → Option Value} {base : Heap} {x qual : Str} {params : Arguments} {body : List Stmt} {scope : Scope} {f : Addr} {fd : FuncData} {N : List Str} {k : Nat} {sp : Sp} {y : Str}
    (F : FunD K x qual params body scope [] [] f fd) (S : FnScope N [y] scope) (hr : Room (k + 1) callerA)
    (hbody : ∀ (cdv : Value) (s : Shared) (H : Hp) (v : V) (Q : VK), Room k (callerA.deeper (envOfC qual scope s.heap.objs.size f cdv)) → sp [v] H Q E0 →
      ∃ t, PSs (cxOf CX0 P w K mg base N qual scope f cdv callerA [] s H E0) body t ∧ t { nx := fun _ H' => Q .non H', rt := Q } (L2.start N [v]) H) : FnAt P w K mg base CX0 f fd y sp := by
  obtain ⟨oc, od, dV, kV, doc, pm, an, cdv, ct, osl, rfl, lk, hcd, _, _⟩ := F.ex
  intro s H u v Q e0 hb r hsp
  have rv : Vals [v] [u] := .cons r .nil
  have KX := e0.mod.kin.keeps fun b o e => (e0.bs b o e).1
  have par : ∀ z ∈ [(y, u)], scope.names.lookup z.1 = some .local ∨ (scope.names.lookup z.1 = some .cell ∧ ((cellsFrom (s.heap.objs.size + 1) scope.names []).lookup z.1).isSome = true) := fun z hz => by
    obtain rfl : z = (y, u) := by simpa using hz
    exact (S.par y (by simp)).imp id fun q => ⟨q, PySem.W.cellsFrom_some _ _ _ (.inl q)⟩
  refine codeAny_call_function hr.depth (KX _ _ lk) rfl S.co S.gen rfl (PySem.W.codeRec_of KX hcd) (hb _ _ _ _ (wpAny_newFunctionEnv_cells S.kind par fun env he s1 x => ?_))
  subst he
  obtain ⟨t, ht, hq⟩ := hbody cdv s H v Q (hr.deeper _) hsp
  have I : Inv (cxOf CX0 P w K mg base N qual scope f cdv callerA [] s H E0) [] (L2.start N [v]) H s1 := inv_start S hr.hd e0 rfl rv x
  refine ⟨(e0.mod.nolimit.keeps fun b o e => (e0.bs b o e).1).keeps x.toInCall.keep, codeAny_func (wpAny_mono (ht.run [] s1 _ H _ I hq) (fun fl s' hs => ?_) fun e s' hs => hs)⟩
  rcases fl with _ | _ | _ | u'
  · obtain ⟨_, H', J, q⟩ := hs
    exact ⟨.non, H', J.os, J.bare, J.base, J.hok, rfl, q⟩
  · exact hs.elim fun _ h => h.elim fun _ h => h.2.elim
  · exact hs.elim fun _ h => h.elim fun _ h => h.2.elim
  · obtain ⟨z, _, H', J, rz, q⟩ := hs
    exact ⟨z, H', J.os, J.bare, J.base, J.hok, rz, q⟩
/-! ### what is tracked when the law begins: its table, and the script where the fragment says nothing of it -/
def tabO : Obj := { cls := .none, data := .fields #[] }
def beg (K : PySem.W.Frag) (a tb : Addr) (o : Obj) (ns : List Int) : Hp := fun b => if b = tb then some (.tbl #[]) else if b = a ∧ K.lookup a = none then some (.frz o (.lst (ns.map V.int))) else none
section
variable {K : PySem.W.Frag} {a tb : Addr} {o : Obj} {ns : List Int} {b : Addr}
theorem beg_tb : beg K a tb o ns tb = some (.tbl #[]) := by unfold beg; rw [if_pos rfl]
theorem beg_cases : beg K a tb o ns b = none ∨ (b = tb ∧ beg K a tb o ns b = some (.tbl #[])) ∨ (b = a ∧ K.lookup a = none ∧ beg K a tb o ns b = some (.frz o (.lst (ns.map V.int)))) := by
  unfold beg
  by_cases h1 : b = tb
  · exact .inr (.inl ⟨h1, if_pos h1⟩)
  · rw [if_neg h1]
    by_cases h2 : b = a ∧ K.lookup a = none
    · exact .inr (.inr ⟨h2.1, h2.2, if_pos h2⟩)
    · exact .inl (if_neg h2)
end
theorem law_end {P : Program} {w : World} {K : PySem.W.Frag} {mg mb : Str → Option Value} {fa a co tb : Addr} {fd : FuncData} {x : Str} {sp : Sp} {s₁ : Shared} {vs : List Value} {ns : List Int}
    (KX : K.In s₁.heap) (hns : s₁.heap.Ns mainGlobals mg) (hb : s₁.heap.Ns builtinsNs mb) (hbb : ∀ x : Str, x ≠ "__name__" → mb x = bootBuiltins x) (hlim : s₁.heap.NoLimit) (hg : s₁.gens = #[])
    (hT : s₁.heap.get? tb = some tabO) (nT : K.lookup tb = none) (C : PySem.W.CodeHd s₁.heap co tb)
    (hbm : ∃ (bm : Addr) (ob : Obj), mg "__builtins__" = some (.ref bm) ∧ bm ≠ builtinsNs ∧ s₁.heap.get? bm = some ob ∧ ob.cls = .type "module" ∧ ob.dict = some builtinsNs ∧ ob.data = .plain)
    (ha : s₁.heap.get? a = some { cls := .type "list", data := .seq vs.toArray }) (hi : IntsAre vs ns) (hl : ns.length ≤ sizeLine)
    (F : ∀ base : Heap, K.In base → base.Ns mainGlobals mg → TabB base mg co tb → FnAt P w K mg base CX0 fa fd x sp) (hbind : ∀ (s : Shared) (u : Value), BindsTo s fd ⟨[u], []⟩ [(x, u)])
    (hsp : ∀ H : Hp, H tb = some (.tbl #[]) → SqL K H a (ns.map V.int) → sp [.ref a] H (fun v _ => v = .bl true) E0) :
    codeAny (model P w) callerA (.call (.ref fa) ⟨[.ref a], []⟩) (fun r s' => r = .ok (.ret (.bool true)) ∧ OldK s₁.heap s'.heap ∧ s'.os = s₁.os ∧ AllBare s'.gens) s₁ := by
  obtain ⟨H, eH⟩ : ∃ H : Hp, H = beg K a tb { cls := .type "list", data := .seq vs.toArray } ns := ⟨_, rfl⟩
  have cs : ∀ b, H b = none ∨ (b = tb ∧ H b = some (.tbl #[])) ∨ (b = a ∧ K.lookup a = none ∧ H b = some (.frz { cls := .type "list", data := .seq vs.toArray } (.lst (ns.map V.int)))) := fun b => by rw [eH]; exact beg_cases
  have Htb : H tb = some (.tbl #[]) := by rw [eH]; exact beg_tb
  have rv := vals_ints hi
  have lv := hi.length
  have nab : a ≠ tb := fun z => by
    rw [z, hT] at ha
    exact absurd (congrArg Obj.data (Option.some.inj ha)) (fun q => nomatch q)
  -- what is neither the script nor the table is not tracked
  have off : ∀ {b : Addr} {o : Obj}, s₁.heap.get? b = some o → (∀ v n, o.data ≠ .seq v n) → o.data ≠ .fields #[] → H b = none := fun {b o} e h1 h2 => by
    rcases cs b with z | ⟨z, _⟩ | ⟨z, _, _⟩
    · exact z
    · rw [z, hT] at e
      exact absurd (congrArg Obj.data (Option.some.inj e)).symm h2
    · rw [z, ha] at e
      exact absurd (congrArg Obj.data (Option.some.inj e)).symm (h1 _ _)
  have offD : ∀ {b : Addr} {o : Obj} {es : Array DictEntry} {ep : Nat}, s₁.heap.get? b = some o → o.data = .dict es ep → H b = none := fun e d => off e (fun v n q => by rw [d] at q; cases q) fun q => by rw [d] at q; cases q
  have stay : ∀ {b : Addr} {m : Str → Option Value}, s₁.heap.Ns b m → (hidT s₁.heap H).Ns b m := fun ⟨o, es, ep, e, d, r⟩ => ⟨o, es, ep, hidT_get e (offD e d), d, r⟩
  have kin : K.In (hidT s₁.heap H) := fun b o e => hidT_get (KX b o e) (by
    rcases cs b with z | ⟨z, _⟩ | ⟨z, n, _⟩
    · exact z
    · rw [z, nT] at e; cases e
    · rw [z, n] at e; cases e)
  have seq : SqL K H a (ns.map V.int) := by
    cases q : K.lookup a with
    | some o =>
      have e := KX a o q
      rw [ha] at e
      cases e
      exact .inr ⟨_, vs.toArray, _, q, rfl, rfl, rfl, by rw [List.size_toArray, lv]; exact hl, by simpa using rv⟩
    | none =>
      refine .inl (.inr ⟨{ cls := .type "list", data := .seq vs.toArray }, ?_⟩)
      rw [eH]
      unfold beg
      rw [if_neg nab, if_pos ⟨rfl, q⟩]
  have ok : HOk P w H s₁.heap := fun b u z => by
    rcases cs b with n | ⟨rfl, n⟩ | ⟨rfl, _, n⟩
    · rw [n] at z; cases z
    · rw [n] at z; cases z; exact hT
    · rw [n] at z; cases z; exact ⟨ha, by rw [List.length_map]; exact hl, vs, _, rv, ha⟩
  have tabB : TabB (hidT s₁.heap H) mg co tb := by
    refine ⟨?_, ?_, fun z => ?_⟩
    · obtain ⟨o, us, file, tf, flags, tg, inF, text, tt, e1, r1, r2, r3, rest⟩ := C
      refine ⟨o, us, file, tf, flags, tg, inF, text, tt, hidT_get e1 (off e1 (fun v n q => by rw [r2] at q; cases q) fun q => ?_), r1, r2, r3, rest⟩
      rw [r2] at q
      cases q
      simp at r3
    · obtain ⟨bm, ob, b1, b2, b3, b4, b5, b6⟩ := hbm
      refine ⟨bm, ob, b1, b2, fun q => ?_, fun q => ?_, hidT_get b3 (off b3 (fun v n q => by rw [b6] at q; cases q) fun q => by rw [b6] at q; cases q), b4, b5, b6⟩
      · obtain ⟨o, es, ep, e, hd, _⟩ := hns
        rw [q, e] at b3
        cases b3
        rw [hd] at b6
        cases b6
      · rw [q, hT] at b3
        cases b3
        cases b6
    · obtain ⟨o, es, ep, e, hd, _⟩ := hns
      rw [z, hT] at e
      cases e
      cases hd
  have env : Env0 P w K mg (hidT s₁.heap H) callerA [] s₁ H := ⟨rfl, ⟨kin, stay hns, ⟨mb, stay hb, hbb⟩, let ⟨mc, h1, h2⟩ := hlim; ⟨mc, stay h1, h2⟩⟩, fun b o e => of_hidT e, Nat.le_of_eq (hidT_size _ _), trivial, fun b hb => (nomatch hb), ok, .of_eq hg⟩
  refine codeAny_mono (F _ kin (stay hns) tabB s₁ H (.ref a) (.ref a) _ env (hbind s₁ (.ref a)) rfl (hsp H Htb seq)) fun r s' h => ?_
  rcases r with e | (_ | _ | _ | u)
  · exact h.elim
  · exact False.elim h
  · exact False.elim h
  · exact False.elim h
  · obtain ⟨v, H', os, bare, un, ok', rr, q⟩ := h
    obtain rfl : v = .bl true := q
    obtain rfl : u = Value.bool true := rr
    have old : ∀ b o, b ≠ tb → s₁.heap.get? b = some o → s'.heap.get? b = some o := fun b o nb e => by
      rcases cs b with z | ⟨z, _⟩ | ⟨z, _, z2⟩
      · exact un.keep b o e z (fun m => nomatch m) (fun m => nomatch m)
      · exact absurd z nb
      · have e2 := (ok' b _ (un.frzs b _ _ z2)).1
        have e1 := (ok b _ z2).1
        rw [e] at e1
        cases e1
        exact e2
    obtain ⟨more, z⟩ := un.tbls tb #[] Htb
    have now : s'.heap.get? tb = some { cls := .none, data := .fields (#[] ++ more) } := ok' tb _ z
    refine ⟨rfl, ⟨fun b o e => ?_, fun b o e => ?_⟩, os, bare⟩
    · by_cases hbt : b = tb
      · subst hbt
        rw [hT] at e
        cases e
        exact .inr (.inl ⟨(C.tab hT).isCodeTable, rfl, #[], more, rfl, by rw [Array.empty_append] at now ⊢; exact now⟩)
      · exact .inl (old b o hbt e)
    · by_cases hbt : b = tb
      · subst hbt
        exact ⟨_, now⟩
      · exact ⟨o, old b o hbt e⟩
theorem walk_end {l : PySem.W.OpenLaw} {n : Nat} {q : Program} {loose : List Str} {XP : (Str → Option Value) → Heap → Prop} {YP : World → Heap → Prop} {d : DefRec} {K : Params → PySem.W.Frag} {x : Str}
    (hn : l.most = some n) (hn2 : n ≤ sizeLine) (hdf : d.params.defaults = []) (hY : ∀ (w : World) (h : Heap), YP w h → (K w.params).In h)
    (F : ∀ (w : World) (mg : Str → Option Value) (fa : Addr) (h : Heap), YP w h → (K w.params).In h → h.Ns mainGlobals mg → mg d.name = some (.ref fa) →
      ∃ (fd : FuncData) (co tb : Addr) (sp : Sp), h.get? tb = some tabO ∧ (K w.params).lookup tb = none ∧ PySem.W.CodeHd h co tb ∧ (∀ (s : Shared) (u : Value), BindsTo s fd ⟨[u], []⟩ [(x, u)]) ∧
        (∀ (H : Hp) (a : Addr) (ns : List Int), ns.length ≤ n → (∀ z ∈ ns, Builtin.Int.intBits z ≤ 1048576) → H tb = some (.tbl #[]) → SqL (K w.params) H a (ns.map V.int) → sp [.ref a] H (fun v _ => v = .bl true) E0) ∧
        ∀ base : Heap, (K w.params).In base → base.Ns mainGlobals mg → TabB base mg co tb → FnAt l.prog w (K w.params) mg base CX0 fa fd x sp) :
    PySem.W.WalkO q loose XP YP l.row.toRowW d [] (fun f vs => PySem.call f vs) := by
  refine Att.attach_callB hn hdf fun w s₀ s₁ mg mb fa o pm cd doc a vs ns G Y ho hd hcd hmg hobj hints hlen hbits hg => ?_
  have KX := hY w _ Y
  obtain ⟨fd, co, tb, sp, hT, nT, C, hb, hsp, hF⟩ := F w mg fa _ Y KX G.T.g hmg
  exact law_end KX G.T.g G.T.b G.T.builtins G.T.nolimit hg hT nT C G.T.bmain hobj hints (Nat.le_trans hlen hn2) hF hb fun H hH hS => hsp H a ns hlen hbits hH hS
end DL
end
section
set_option Elab.async false
set_option linter.all false
set_option maxRecDepth 100000
set_option maxHeartbeats 4000000
/-! The rules as the printer of derivations names them. -/
namespace DL
open PySem PySem.Spec PyProof.Rows L2
/-- what a context gives -/
structure Kc (X : Cx) (k : Nat) : Prop where
  calm : X.calm = true
  nd : X.N.Nodup
  room : Room k X.A
theorem Kc.u {X : Cx} {k : Nat} (c : Kc X k) : X.A.units + 64 < cLine := by have := c.room.un; omega
theorem Kc.u1 {X : Cx} {k : Nat} (c : Kc X k) : X.A.units + 1 < cLine := by have := c.room.un; omega
theorem Kc.b {X : Cx} {k : Nat} (c : Kc X k) {s : Shared} {H : Hp} {scope : Scope} {e : Env} {fp : List Addr} : Kc (X.blk s H scope e fp) k := ⟨c.calm, c.nd, c.room⟩
section
variable {X : Cx} {k : Nat} {a b c3 e : Expr} {ta tb tc te : TD} {t : TDA} {es : List Expr} {p pos : Pos}
/-! ### comparisons -/
def oEqA : RD2 := fun x y G Q => oEq x y G Q ∨ oEmL id x y G Q
def oNeA : RD2 := fun x y G Q => oNe x y G Q ∨ oEmL not x y G Q ∨ oNe0 x y G Q
def oLeA : RD2 := fun x y G Q => oLe x y G Q ∨ oLeD x y G Q
def oInA : RD2 := fun x y G Q => oIn x y G Q ∨ oInN id x y G Q
def oNinA : RD2 := fun x y G Q => oNin x y G Q ∨ oInN not x y G Q
theorem ok_eq (c : Kc X k) : ∃ r, OpR X (compareOp .Eq) r ∧ OpS X oEqA r := ⟨_, OpR.or (op_eqP c.u) (op_eqL c.u), OpS.or oEq_s oEmL_s⟩
theorem ok_ne (c : Kc X k) : ∃ r, OpR X (compareOp .NotEq) r ∧ OpS X oNeA r := ⟨_, OpR.or (op_neP c.u) (OpR.or (op_neL c.u) (op_ne0 c.u)), OpS.or oNe_s (OpS.or oEmL_s oNe0_s)⟩
theorem ok_le (c : Kc X k) : ∃ r, OpR X (compareOp .LtE) r ∧ OpS X oLeA r := ⟨_, OpR.or op_le (op_leP c.u), OpS.or oI0_b oCmD_s⟩
theorem ok_lt (c : Kc X k) : ∃ r, OpR X (compareOp .Lt) r ∧ OpS X oLt r := ⟨_, OpR.or op_lt (op_ltP c.u), OpS.or oI0_b oLtD_s⟩
theorem ok_gt (c : Kc X k) : ∃ r, OpR X (compareOp .Gt) r ∧ OpS X oGt r := ⟨_, op_gt, oI0_b⟩
theorem ok_ge (c : Kc X k) : ∃ r, OpR X (compareOp .GtE) r ∧ OpS X oGe r := ⟨_, op_ge, oI0_b⟩
theorem ok_in (c : Kc X k) : ∃ r, OpR X (compareOp .In) r ∧ OpS X oInA r := ⟨_, OpR.or (ops_in c.u) (op_inN c.u), OpS.or (in_s id) (oInN_s id)⟩
theorem ok_nin (c : Kc X k) : ∃ r, OpR X (compareOp .NotIn) r ∧ OpS X oNinA r := ⟨_, OpR.or (ops_nin c.u) (op_ninN c.u), OpS.or (in_s not) (oInN_s not)⟩
theorem de_c {op : CmpOp} {od : RD2} (h : ∃ r, OpR X (compareOp op) r ∧ OpS X od r) (ha : DE X a ta) (hb : DE X b tb) (hm : behindInMarks op b = false := by rfl) : DE X (.Compare a [op] [b] pos) (dBin od ta tb) :=
  let ⟨_, h1, h2⟩ := h
  de_cmp h1 h2 ha hb hm
theorem dt_c {op : CmpOp} {od : RD2} (h : ∃ r, OpR X (compareOp op) r ∧ OpS X od r) (ha : DE X a ta) (hb : DE X b tb) (hm : behindInMarks op b = false := by rfl) : DT X (.Compare a [op] [b] pos) (dTest (dBin od ta tb)) :=
  let ⟨_, h1, h2⟩ := h
  dt_cmp h1 h2 ha hb hm
theorem de_c2 {op op' : CmpOp} {od od' : RD2} (h : ∃ r, OpR X (compareOp op) r ∧ OpS X od r) (h' : ∃ r, OpR X (compareOp op') r ∧ OpS X od' r) (ha : DE X a ta) (hb : DE X b tb) (hc : DE X c3 tc)
    (hm : lastMarks [op, op'] [b, c3] = false := by with_unfolding_all rfl) : DE X (.Compare a [op, op'] [b, c3] pos) (dChain od od' ta tb tc) :=
  let ⟨_, h1, h2⟩ := h
  let ⟨_, g1, g2⟩ := h'
  de_chain h1 g1 h2 g2 ha hb hc hm
theorem dt_c2 {op op' : CmpOp} {od od' : RD2} (h : ∃ r, OpR X (compareOp op) r ∧ OpS X od r) (h' : ∃ r, OpR X (compareOp op') r ∧ OpS X od' r) (ha : DE X a ta) (hb : DE X b tb) (hc : DE X c3 tc)
    (hm : lastMarks [op, op'] [b, c3] = false := by with_unfolding_all rfl) : DT X (.Compare a [op, op'] [b, c3] pos) (dTest (dChain od od' ta tb tc)) :=
  let ⟨_, h1, h2⟩ := h
  let ⟨_, g1, g2⟩ := h'
  dt_chain h1 g1 h2 g2 ha hb hc hm
/-! ### subscripts -/
def oIxA : RD2 := fun x y G Q => oIx x y G Q ∨ oIxN x y G Q
theorem de_ixA (c : Kc X k) (ha : DE X a ta) (hb : DE X b tb) (hs : PlainIx b := by intro _ _; rfl) : DE X (.Subscript a b pos) (dBin oIxA ta tb) :=
  de_of (pe_ix (IxR.or (IxR.or ix_seq (ix_dk c.u1)) (ix_dn c.u)) ha hb hs) fun σ H env G Q Qv rs rg h k => bin_lf (OpS.or oIx_s oIxN_s) rs rg h k
/-! ### built-ins -/
section
variable (c : Kc X k)
include c
theorem de_isi (hm : X.mg "isinstance" = none) (ha : DA X (e :: es) t) (hg : Gl X "isinstance" := by rfl) (he : starEach (e :: es) X.env = (false, eval e X.env) :: starEach es X.env := by rfl) (hpl : (backTo pos (starEach es X.env)).any (·.1) = false := by rfl) : DE X (.Call (.Name "isinstance" p) (e :: es) [] pos) (dB oIsi t) :=
  de_B call_isi oIsi_s hg hm PyProof.Rows.boot_isinstance ha (by decide) (by decide) he hpl
theorem de_len (hm : X.mg "len" = none) (ha : DA X (e :: es) t) (hg : Gl X "len" := by rfl) (he : starEach (e :: es) X.env = (false, eval e X.env) :: starEach es X.env := by rfl) (hpl : (backTo pos (starEach es X.env)).any (·.1) = false := by rfl) : DE X (.Call (.Name "len" p) (e :: es) [] pos) (dB oLen t) :=
  de_B call_lenA oLen_s hg hm boot_len ha (by decide) (by decide) he hpl
theorem de_all (hm : X.mg "all" = none) (ha : DA X (e :: es) t) (hg : Gl X "all" := by rfl) (he : starEach (e :: es) X.env = (false, eval e X.env) :: starEach es X.env := by rfl) (hpl : (backTo pos (starEach es X.env)).any (·.1) = false := by rfl) : DE X (.Call (.Name "all" p) (e :: es) [] pos) (dB oAll t) :=
  de_B (cr_all c.calm) oAll_s hg hm PyProof.Rows.boot_all ha (by decide) (by decide) he hpl
theorem de_any (hm : X.mg "any" = none) (ha : DA X (e :: es) t) (hg : Gl X "any" := by rfl) (he : starEach (e :: es) X.env = (false, eval e X.env) :: starEach es X.env := by rfl) (hpl : (backTo pos (starEach es X.env)).any (·.1) = false := by rfl) : DE X (.Call (.Name "any" p) (e :: es) [] pos) (dB oAny t) :=
  de_B (cr_any c.calm) oAny_s hg hm PyProof.Rows.boot_any ha (by decide) (by decide) he hpl
theorem de_min (hm : X.mg "min" = none) (ha : DA X (e :: es) t) (hg : Gl X "min" := by rfl) (he : starEach (e :: es) X.env = (false, eval e X.env) :: starEach es X.env := by rfl) (hpl : (backTo pos (starEach es X.env)).any (·.1) = false := by rfl) : DE X (.Call (.Name "min" p) (e :: es) [] pos) (dB oMin t) :=
  de_B (cr_min c.calm) oMin_s hg hm PyProof.Rows.boot_min ha (by decide) (by decide) he hpl
theorem de_max (hm : X.mg "max" = none) (ha : DA X (e :: es) t) (hg : Gl X "max" := by rfl) (he : starEach (e :: es) X.env = (false, eval e X.env) :: starEach es X.env := by rfl) (hpl : (backTo pos (starEach es X.env)).any (·.1) = false := by rfl) : DE X (.Call (.Name "max" p) (e :: es) [] pos) (dB oMax t) :=
  de_B (cr_max c.calm) oMax_s hg hm PyProof.Rows.boot_max ha (by decide) (by decide) he hpl
theorem de_max2 (hm : X.mg "max" = none) (ha : DA X (e :: es) t) (hg : Gl X "max" := by rfl) (he : starEach (e :: es) X.env = (false, eval e X.env) :: starEach es X.env := by rfl) (hpl : (backTo pos (starEach es X.env)).any (·.1) = false := by rfl) : DE X (.Call (.Name "max" p) (e :: es) [] pos) (dB oMax2 t) :=
  de_B (call_max2 c.calm) oMax2_s hg hm PyProof.Rows.boot_max ha (by decide) (by decide) he hpl
theorem de_sum (hm : X.mg "sum" = none) (ha : DA X (e :: es) t) (hg : Gl X "sum" := by rfl) (he : starEach (e :: es) X.env = (false, eval e X.env) :: starEach es X.env := by rfl) (hpl : (backTo pos (starEach es X.env)).any (·.1) = false := by rfl) : DE X (.Call (.Name "sum" p) (e :: es) [] pos) (dB oSum t) :=
  de_B (cr_sum c.calm) oSum_s hg hm PyProof.Rows.boot_sum ha (by decide) (by decide) he hpl
theorem de_intc (hm : X.mg "int" = none) (ha : DA X (e :: es) t) (hg : Gl X "int" := by rfl) (he : starEach (e :: es) X.env = (false, eval e X.env) :: starEach es X.env := by rfl) (hpl : (backTo pos (starEach es X.env)).any (·.1) = false := by rfl) : DE X (.Call (.Name "int" p) (e :: es) [] pos) (dB oInt t) :=
  de_Ty call_int1 oInt_s hg hm PyProof.Rows.boot_int ha (by decide) (by decide) he hpl
def oSortedA : OC := fun ds G Q => oSorted ds G Q ∨ oSortN ds G Q
def oListA : OC := fun ds G Q => oListOf ds G Q ∨ oListN ds G Q
omit c in
theorem CaS.or {oc oc' : OC} {r r' : List V → Hp → VK → Prop} (h : CaS X oc r) (h' : CaS X oc' r') : CaS X (fun ds G Q => oc ds G Q ∨ oc' ds G Q) (fun vs H Q => r vs H Q ∨ r' vs H Q) := fun ds G Q vs H Qv q rv rg k =>
  q.elim (fun q => .inl (h ds G Q vs H Qv q rv rg k)) fun q => .inr (h' ds G Q vs H Qv q rv rg k)
theorem de_sorted (hm : X.mg "sorted" = none) (ha : DA X (e :: es) t) (hg : Gl X "sorted" := by rfl) (he : starEach (e :: es) X.env = (false, eval e X.env) :: starEach es X.env := by rfl) (hpl : (backTo pos (starEach es X.env)).any (·.1) = false := by rfl) : DE X (.Call (.Name "sorted" p) (e :: es) [] pos) (dB oSortedA t) :=
  de_B (CallR.or (cr_sortA c.u) (cr_sortN c.calm c.u)) (CaS.or oSorted_s oSortN_s) hg hm PyProof.Rows.boot_sorted ha (by decide) (by decide) he hpl
theorem de_list (hm : X.mg "list" = none) (ha : DA X (e :: es) t) (hg : Gl X "list" := by rfl) (he : starEach (e :: es) X.env = (false, eval e X.env) :: starEach es X.env := by rfl) (hpl : (backTo pos (starEach es X.env)).any (·.1) = false := by rfl) : DE X (.Call (.Name "list" p) (e :: es) [] pos) (dB oListA t) :=
  de_Ty (CallR.or call_list_of (call_listN c.calm)) (CaS.or oListOf_s oListN_s) hg hm PyProof.Rows.boot_list ha (by decide) (by decide) he hpl
theorem de_tuple (hm : X.mg "tuple" = none) (ha : DA X (e :: es) t) (hg : Gl X "tuple" := by rfl) (he : starEach (e :: es) X.env = (false, eval e X.env) :: starEach es X.env := by rfl) (hpl : (backTo pos (starEach es X.env)).any (·.1) = false := by rfl) : DE X (.Call (.Name "tuple" p) (e :: es) [] pos) (dB oTupOf t) :=
  de_Ty call_tuple_of oTupOf_s hg hm PyProof.Rows.boot_tuple ha (by decide) (by decide) he hpl
theorem de_repr (hgd : X.A.guards = some []) (hm : X.mg "repr" = none) (ha : DA X (e :: es) t) (hg : Gl X "repr" := by rfl) (he : starEach (e :: es) X.env = (false, eval e X.env) :: starEach es X.env := by rfl) (hpl : (backTo pos (starEach es X.env)).any (·.1) = false := by rfl) : DE X (.Call (.Name "repr" p) (e :: es) [] pos) (dB oRepr t) :=
  de_B (call_reprD hgd c.u) oRepr_s hg hm PyProof.Rows.boot_repr ha (by decide) (by decide) he hpl
/-! ### stores in lists and dicts -/
def oSetA : RS3 := fun o i v G Q => oSetK o i v G Q ∨ oSetL o i v G Q ∨ oSetN o i v G Q
theorem dg_subA {o i : Expr} {to ti : TD} (ho : DE X o to) (hi : DE X i ti)
    (ha : ∀ v, assign (.Subscript o i pos) X.env v = (do
      let ov ← holding [v] (eval o X.env)
      let iv ← holding [v, ov] (eval i X.env)
      standAt pos
      holding [v, ov, iv] (setItem ov iv v)
      release [v, ov, iv] []) := by intro _; rfl) : DG X (.Subscript o i pos) (dgSub to ti oSetA) :=
  dg_sub ho hi (PSet.or (set_dk c.u1) (PSet.or set_list (set_dn c.u))) (SetS.or oSetK_s (SetS.or oSetL_s oSetN_s)) ha
end
end
section
variable {X : Cx} {e : Expr} {t t' : TD} {pos : Pos}
/-- one of two ways -/
def dOr (t t' : TD) : TD := fun env G Q => t env G Q ∨ t' env G Q
theorem de_two (h : DE X e t) (h' : DE X e t') : DE X e (dOr t t') := ⟨fun pins s σ H Qv I ⟨env, G, Q, rs, rg, q, k⟩ =>
  q.elim (fun q => h.run pins s σ H Qv I ⟨env, G, Q, rs, rg, q, k⟩) fun q => h'.run pins s σ H Qv I ⟨env, G, Q, rs, rg, q, k⟩⟩
/-- a tuple of texts of the module -/
structure GTup (mg : Str → Option Value) (K : PySem.W.Frag) (x : Str) (l : List D) (vs : List V) : Prop where
  ex : ∃ a, mg x = some (.ref a) ∧ ∀ H, SqT K H a vs
theorem GTup.de {x : Str} {zs : List Str} (g : GTup X.mg X.K x (zs.map D.str) (zs.map V.str)) (hg : Gl X x := by rfl) (hz : zs.length ≤ sizeLine := by rw [sizeLine_eq]; decide) (hd : (x == ("__debug__" : Str)) = false := by decide) : DE X (.Name x pos) (dC (.tup (zs.map D.str))) := by
  obtain ⟨a, h1, h2⟩ := g.ex
  refine de_gtup hg h1 h2 (fun H => ?_) (by simpa using hz) hd
  clear h1 h2 g hz
  induction zs with
  | nil => exact rvs_nil
  | cons z zs ih => exact rvs_cons rv_str ih
end
end DL
end
section
set_option Elab.async false
set_option linter.all false
set_option maxRecDepth 100000
set_option maxHeartbeats 4000000
/-! Lean values as data: texts, whole numbers, tuples, pairs; their order; dicts of them. -/
namespace DL
open PySem PySem.Spec PyProof.Rows L2
theorem okd_mono {n m : Nat} {d : D} (h : Okd n d) (k : n ≤ m) : Okd m d := by
  induction m with
  | zero => have : n = 0 := by omega
            subst this; exact h
  | succ m ih =>
    by_cases e : n = m + 1
    · subst e; exact h
    · exact (ih (by omega)).succ
/-- Lean values as data -/
class Enc (α : Type) [DecidableEq α] where
  enc : α → D
  dep : Nat
  okd : ∀ a, Okd dep (enc a)
  eqv : ∀ a b, PyData.eqv (enc a).toP (enc b).toP = decide (a = b)
  alike : ∀ a b, PySem.W.alike (enc a).toP (enc b).toP = true
  nn : ∀ a, enc a ≠ .non
  anti : ∀ a b, ltD (enc a) (enc b) = false → ltD (enc b) (enc a) = false → a = b
  key : α → NestedKey
  nk_key : ∀ a, nk (enc a) = some (key a)
  key_dep : ∀ a, (key a).depth ≤ dep
  key_inj : ∀ a b, key a = key b → a = b
abbrev enc {α : Type} [DecidableEq α] [Enc α] (a : α) : D := Enc.enc a
abbrev key {α : Type} [DecidableEq α] [Enc α] (a : α) : NestedKey := Enc.key a
theorem lex_none {l : List (Int ⊕ List Nat)} : PyProof.Rows.lexLt itemOrd l l = false := lex_irrefl _
theorem lt_int (i j : Int) : ltD (.int i) (.int j) = decide (i < j) := by
  unfold ltD; rw [D.toP, D.toP]; exact PySem.W.dataLt_int i j
theorem lt_bool (i j : Bool) : ltD (.bl i) (.bl j) = (!i && j) := by
  unfold ltD; rw [D.toP, D.toP, PySem.W.dataLt_bool]; cases i <;> cases j <;> rfl
theorem lt_str (x y : Str) : ltD (.str x) (.str y) = decide (x.cps.toList < y.cps.toList) := by
  unfold ltD; rw [D.toP, D.toP]; exact PySem.W.dataLt_str x y
theorem lt_nil : ltD (.tup []) (.tup []) = false := by
  unfold ltD; exact PySem.W.dataLt_self _
theorem lt_nil_cons {x : D} {l : List D} : ltD (.tup []) (.tup (x :: l)) = true := by
  unfold ltD
  rw [D.toP, D.toP, toPs, toPs, PySem.W.dataLt_tuple, PySem.W.toks_all_cons]
  simp only [PySem.W.keyToksAll]
  rw [lex_diff (O := itemOrd) (by simp)]
  rfl
theorem lt_cons_nil {x : D} {l : List D} : ltD (.tup (x :: l)) (.tup []) = false := by
  unfold ltD
  rw [D.toP, D.toP, toPs, toPs, PySem.W.dataLt_tuple, PySem.W.toks_all_cons]
  simp only [PySem.W.keyToksAll]
  rw [lex_diff (O := itemOrd) (by simp)]
  rfl
theorem lt_cons {x y : D} {l m : List D} (h : PySem.W.alike x.toP y.toP = true) : ltD (.tup (x :: l)) (.tup (y :: m)) = if PyData.eqv x.toP y.toP = true then ltD (.tup l) (.tup m) else ltD x y := by
  unfold ltD
  rw [D.toP, D.toP, toPs, toPs, PySem.W.dataLt_tuple, PySem.W.dataLt_cons h, D.toP, D.toP, PySem.W.dataLt_tuple]
theorem nat_lists_tri : ∀ a b : List Nat, ¬ a < b → ¬ b < a → a = b := fun a b h1 h2 => List.le_antisymm (List.not_lt.mp h2) (List.not_lt.mp h1)
instance : Enc Str where
  enc := D.str
  dep := 0
  okd _ := okd_str
  eqv a b := by rw [D.toP, D.toP]; simp only [PyData.eqv]; exact PySem.W.beq_decide a b
  alike a b := by rw [D.toP, D.toP]; simp only [PySem.W.alike]
  nn _ := by intro h; cases h
  anti a b h1 h2 := by
    rw [lt_str, decide_eq_false_iff_not] at h1 h2
    have := nat_lists_tri _ _ h1 h2
    cases a; cases b
    simp only at this
    congr 1
    exact Array.toList_inj.mp this
  key := NestedKey.text
  nk_key _ := rfl
  key_dep _ := Nat.zero_le _
  key_inj a b h := by injection h
instance : Enc Int where
  enc := D.int
  dep := 0
  okd _ := okd_int
  eqv a b := by rw [D.toP, D.toP]; simp only [PyData.eqv]; exact PySem.W.beq_decide a b
  alike a b := by rw [D.toP, D.toP]; simp only [PySem.W.alike]
  nn _ := by intro h; cases h
  anti a b h1 h2 := by
    rw [lt_int, decide_eq_false_iff_not] at h1 h2
    omega
  key := NestedKey.num
  nk_key _ := rfl
  key_dep _ := Nat.zero_le _
  key_inj a b h := by injection h
section
variable {α β : Type} [DecidableEq α] [Enc α] [DecidableEq β] [Enc β]
theorem eqv_tups : ∀ (a b : List α), PyData.eqv (D.tup (a.map enc)).toP (D.tup (b.map enc)).toP = decide (a = b) := by
  intro a b
  rw [D.toP, D.toP]
  simp only [PyData.eqv]
  induction a generalizing b with
  | nil => cases b with
    | nil => simp only [List.map_nil, toPs, PyData.eqvAll, decide_true]
    | cons y b => simp only [List.map_nil, List.map_cons, toPs, PyData.eqvAll]; simp
  | cons x a ih => cases b with
    | nil => simp only [List.map_nil, List.map_cons, toPs, PyData.eqvAll]; simp
    | cons y b =>
      simp only [List.map_cons, toPs, PyData.eqvAll]
      rw [Enc.eqv, ih b]
      by_cases h1 : x = y <;> by_cases h2 : a = b <;> simp [h1, h2]
theorem alike_tups : ∀ (a b : List α), PySem.W.alike (D.tup (a.map enc)).toP (D.tup (b.map enc)).toP = true := by
  intro a b
  rw [D.toP, D.toP, PySem.W.alike]
  induction a generalizing b with
  | nil => rw [List.map_nil, toPs, PySem.W.alikeAll]
  | cons x a ih => cases b with
    | nil => rw [List.map_nil, List.map_cons, toPs, toPs, PySem.W.alikeAll]
    | cons y b =>
      rw [List.map_cons, List.map_cons, toPs, toPs, PySem.W.alikeAll, Enc.alike, ih b]
      rfl
theorem anti_tups : ∀ (a b : List α), ltD (.tup (a.map enc)) (.tup (b.map enc)) = false → ltD (.tup (b.map enc)) (.tup (a.map enc)) = false → a = b
  | [], [], _, _ => rfl
  | [], y :: b, h, _ => by rw [List.map_nil, List.map_cons, lt_nil_cons] at h; cases h
  | x :: a, [], _, h => by rw [List.map_nil, List.map_cons, lt_nil_cons] at h; cases h
  | x :: a, y :: b, h1, h2 => by
    rw [List.map_cons, List.map_cons, lt_cons (Enc.alike _ _), Enc.eqv] at h1 h2
    by_cases h : x = y
    · subst h
      rw [decide_eq_true rfl, if_pos rfl] at h1 h2
      rw [anti_tups a b h1 h2]
    · rw [decide_eq_false h, if_neg Bool.false_ne_true] at h1
      rw [decide_eq_false (fun z => h z.symm), if_neg Bool.false_ne_true] at h2
      exact absurd (Enc.anti x y h1 h2) h
theorem nks_map : ∀ (l : List α), nks (l.map enc) = some (l.map key)
  | [] => rfl
  | x :: l => by rw [List.map_cons, nks, Enc.nk_key, nks_map l]; rfl
theorem dep_all {n : Nat} : ∀ {l : List NestedKey}, (∀ k ∈ l, k.depth ≤ n) → NestedKey.depthAll l ≤ n
  | [], _ => by rw [NestedKey.depthAll]; exact Nat.zero_le _
  | k :: l, h => by
    rw [NestedKey.depthAll]
    exact Nat.max_le.mpr ⟨h k List.mem_cons_self, dep_all fun j hj => h j (List.mem_cons_of_mem _ hj)⟩
theorem keys_inj : ∀ (a b : List α), a.map key = b.map key → a = b
  | [], [], _ => rfl
  | [], _ :: _, h => by cases h
  | _ :: _, [], h => by cases h
  | x :: a, y :: b, h => by
    injection h with h1 h2
    rw [Enc.key_inj _ _ h1, keys_inj a b h2]
instance : Enc (List α) where
  enc l := D.tup (l.map enc)
  dep := Enc.dep α + 1
  okd l := fun d hd => by
    obtain ⟨a, _, rfl⟩ := List.mem_map.mp hd
    exact Enc.okd a
  eqv := eqv_tups
  alike := alike_tups
  nn _ := by intro h; cases h
  anti := anti_tups
  key l := .tup (l.map key)
  nk_key l := by rw [nk, nks_map]; rfl
  key_dep l := by
    rw [NestedKey.depth]
    have := dep_all (n := Enc.dep α) (l := l.map key) fun k hk => by
      obtain ⟨a, _, rfl⟩ := List.mem_map.mp hk
      exact Enc.key_dep a
    omega
  key_inj a b h := by injection h with h; exact keys_inj a b h
instance : Enc (α × β) where
  enc p := D.tup [enc p.1, enc p.2]
  dep := max (Enc.dep α) (Enc.dep β) + 1
  okd p := fun d hd => by
    rcases List.mem_cons.mp hd with rfl | hd
    · exact okd_mono (Enc.okd p.1) (Nat.le_max_left _ _)
    · obtain rfl := List.mem_singleton.mp hd
      exact okd_mono (Enc.okd p.2) (Nat.le_max_right _ _)
  eqv p q := by
    rw [D.toP, D.toP]
    simp only [PyData.eqv, toPs, PyData.eqvAll]
    rw [Enc.eqv, Enc.eqv]
    cases p; cases q
    simp [Prod.ext_iff]
  alike p q := by
    rw [D.toP, D.toP, PySem.W.alike]
    simp only [toPs, PySem.W.alikeAll]
    rw [Enc.alike, Enc.alike]
    rfl
  nn _ := by intro h; cases h
  anti p q h1 h2 := by
    rw [lt_cons (Enc.alike _ _), lt_cons (Enc.alike _ _), Enc.eqv, Enc.eqv, lt_nil] at h1 h2
    by_cases e1 : p.1 = q.1
    · rw [decide_eq_true e1, if_pos rfl] at h1
      rw [decide_eq_true e1.symm, if_pos rfl] at h2
      by_cases e2 : p.2 = q.2
      · exact Prod.ext e1 e2
      · rw [decide_eq_false e2, if_neg Bool.false_ne_true] at h1
        rw [decide_eq_false (fun z => e2 z.symm), if_neg Bool.false_ne_true] at h2
        exact absurd (Enc.anti _ _ h1 h2) e2
    · rw [decide_eq_false e1, if_neg Bool.false_ne_true] at h1
      rw [decide_eq_false (fun z => e1 z.symm), if_neg Bool.false_ne_true] at h2
      exact absurd (Enc.anti _ _ h1 h2) e1
  key p := .tup [key p.1, key p.2]
  nk_key p := by rw [nk, nks, Enc.nk_key, nks, Enc.nk_key, nks]; rfl
  key_dep p := by
    rw [NestedKey.depth]
    have := dep_all (n := max (Enc.dep α) (Enc.dep β)) (l := [key p.1, key p.2]) fun k hk => by
      rcases List.mem_cons.mp hk with rfl | hk
      · exact Nat.le_trans (Enc.key_dep p.1) (Nat.le_max_left _ _)
      · obtain rfl := List.mem_singleton.mp hk
        exact Nat.le_trans (Enc.key_dep p.2) (Nat.le_max_right _ _)
    omega
  key_inj p q h := by
    injection h with h
    injection h with h1 h2
    injection h2 with h2 _
    exact Prod.ext (Enc.key_inj _ _ h1) (Enc.key_inj _ _ h2)
end
end DL
end
section
set_option Elab.async false
set_option linter.all false
set_option maxRecDepth 100000
set_option maxHeartbeats 4000000
/-! Sorting of Lean values; dicts of Lean values. -/
namespace DL
open PySem PySem.Spec PyProof.Rows L2
theorem leD_trans (a b c : D) (h : leD a b = true) (k : leD b c = true) : leD a c = true := by
  unfold leD ltD at *
  cases e : PySem.W.dataLt c.toP a.toP with
  | false => rfl
  | true =>
    rcases lex_negTrans (O := itemOrd) _ (PySem.W.keyToks b.toP) _ e with z | z
    · rw [show PySem.W.dataLt c.toP b.toP = true from z] at k; cases k
    · rw [show PySem.W.dataLt b.toP a.toP = true from z] at h; cases h
theorem leD_total (a b : D) : (leD a b || leD b a) = true := by
  unfold leD ltD
  cases e : PySem.W.dataLt b.toP a.toP with
  | false => rfl
  | true =>
    cases f : PySem.W.dataLt a.toP b.toP with
    | false => rfl
    | true =>
      have := lex_trans (O := itemOrd) _ _ _ e f
      rw [lex_irrefl] at this
      cases this
theorem leD_refl (a : D) : leD a a = true := by
  have := leD_total a a
  simpa using this
section
variable {α : Type} [DecidableEq α] [Enc α]
def leE (a b : α) : Bool := leD (enc a) (enc b)
def srt (l : List α) : List α := l.mergeSort leE
theorem leE_trans (a b c : α) (h : leE a b = true) (k : leE b c = true) : leE a c = true := leD_trans _ _ _ h k
theorem leE_total (a b : α) : (leE a b || leE b a) = true := leD_total _ _
theorem leE_refl (a : α) : leE a a = true := leD_refl _
theorem leE_anti {a b : α} (h : leE a b = true) (k : leE b a = true) : a = b := by
  unfold leE leD at h k
  exact Enc.anti a b (by simpa using k) (by simpa using h)
theorem srt_map (l : List α) : (l.map enc).mergeSort leD = (srt l).map enc := (List.map_mergeSort (r := leE) (s := leD) (f := enc) (fun _ _ _ _ => rfl)).symm
theorem srt_perm (l : List α) : (srt l).Perm l := List.mergeSort_perm l leE
theorem srt_pw (l : List α) : (srt l).Pairwise (leE · ·) := List.pairwise_mergeSort leE_trans leE_total l
theorem mem_srt {a : α} {l : List α} : a ∈ srt l ↔ a ∈ l := (srt_perm l).mem_iff
theorem srt_len (l : List α) : (srt l).length = l.length := (srt_perm l).length_eq
theorem pw_unique {l m : List α} (hl : l.Pairwise (leE · ·)) (hm : m.Pairwise (leE · ·)) (p : l.Perm m) : l = m :=
  List.Perm.eq_of_pairwise (fun a b _ _ h k => leE_anti h k) hl hm p
theorem srt_eq {l m : List α} (p : l.Perm m) : srt l = srt m := pw_unique (srt_pw l) (srt_pw m) ((srt_perm l).trans (p.trans (srt_perm m).symm))
theorem srt_self {l : List α} (h : l.Pairwise (leE · ·)) : srt l = l := List.mergeSort_of_pairwise h
theorem srt_srt (l : List α) : srt (srt l) = srt l := srt_self (srt_pw l)
theorem srt_nil : srt ([] : List α) = [] := List.mergeSort_nil
theorem nodup_perm {l m : List α} (hl : l.Nodup) (hm : m.Nodup) (h : ∀ a, a ∈ l ↔ a ∈ m) : l.Perm m := by
  rw [List.perm_iff_count]
  intro a
  rw [List.Nodup.count hl, List.Nodup.count hm]
  simp only [h a]
theorem srt_mem {l m : List α} (hl : l.Nodup) (hm : m.Nodup) (h : ∀ a, a ∈ l ↔ a ∈ m) : srt l = srt m := srt_eq (nodup_perm hl hm h)
theorem srt_perm_iff {l m : List α} : srt l = srt m ↔ l.Perm m := ⟨fun h => (srt_perm l).symm.trans (h ▸ srt_perm m), srt_eq⟩
theorem enc_inj {a b : α} (h : enc a = enc b) : a = b := by
  have := Enc.nk_key a
  rw [show Enc.enc a = Enc.enc b from h, Enc.nk_key b] at this
  exact Enc.key_inj _ _ (Option.some.inj this).symm
theorem okd8 (a : α) (h : Enc.dep α ≤ 8) : Okd 8 (enc a) := okd_mono (Enc.okd a) h
theorem key8 (a : α) (h : Enc.dep α ≤ 8) : (key a).depth ≤ 8 := Nat.le_trans (Enc.key_dep a) h
theorem key_iff {a b : α} : key a = key b ↔ a = b := ⟨Enc.key_inj a b, fun h => h ▸ rfl⟩
theorem okds (l : List α) (h : Enc.dep α ≤ 8) : ∀ d ∈ l.map enc, Okd 8 d := fun d hd => by
  obtain ⟨a, _, rfl⟩ := List.mem_map.mp hd
  exact okd8 a h
theorem alikes (l : List α) : ∀ d ∈ l.map enc, ∀ e ∈ l.map enc, PySem.W.alike d.toP e.toP = true := fun d hd e he => by
  obtain ⟨a, _, rfl⟩ := List.mem_map.mp hd
  obtain ⟨b, _, rfl⟩ := List.mem_map.mp he
  exact Enc.alike a b
/-! ### dicts -/
def encM (m : List (α × D)) : List (NestedKey × D × D) := m.map fun p => (key p.1, enc p.1, p.2)
def look (m : List (α × D)) (a : α) : Option D := (m.find? fun p => decide (p.1 = a)).map (·.2)
def putA (m : List (α × D)) (a : α) (v : D) : List (α × D) := if (look m a).isSome = true then m.map (fun p => if p.1 = a then (p.1, v) else p) else m ++ [(a, v)]
theorem look_enc (m : List (α × D)) (a : α) : valN (encM m) (key a) = look m a := by
  unfold valN look encM
  induction m with
  | nil => rfl
  | cons p m ih =>
    rw [List.map_cons, List.find?_cons, List.find?_cons]
    by_cases h : p.1 = a
    · simp [h]
    · have h2 : ¬ key p.1 = key a := fun z => h (key_iff.mp z)
      simp only [decide_eq_false h, decide_eq_false h2]
      exact ih
theorem put_enc (m : List (α × D)) (a : α) (v : D) : putN (encM m) (key a) (enc a) v = encM (putA m a v) := by
  unfold putN putA
  rw [look_enc]
  split
  · unfold encM
    rw [List.map_map, List.map_map]
    apply List.map_congr_left
    intro p _
    simp only [Function.comp]
    by_cases h : p.1 = a
    · rw [if_pos (key_iff.mpr h), if_pos h]
    · rw [if_neg (fun z => h (key_iff.mp z)), if_neg h]
  · unfold encM; rw [List.map_append]; rfl
theorem encM_keys (m : List (α × D)) : (encM m).map (·.2.1) = (m.map (·.1)).map enc := by
  unfold encM
  rw [List.map_map, List.map_map]
  rfl
theorem look_some {m : List (α × D)} {a : α} : (look m a).isSome = true ↔ a ∈ m.map (·.1) := by
  unfold look
  rw [Option.isSome_map]
  constructor
  · intro h
    obtain ⟨p, hp⟩ := Option.isSome_iff_exists.mp h
    have h1 := List.find?_some hp
    have h2 := List.mem_of_find?_eq_some hp
    exact List.mem_map.mpr ⟨p, h2, by simpa using h1⟩
  · intro h
    obtain ⟨p, h1, h2⟩ := List.mem_map.mp h
    exact List.find?_isSome.mpr ⟨p, h1, by simpa using h2⟩
theorem put_keys (m : List (α × D)) (a : α) (v : D) : (putA m a v).map (·.1) = if a ∈ m.map (·.1) then m.map (·.1) else m.map (·.1) ++ [a] := by
  unfold putA
  by_cases h : a ∈ m.map (·.1)
  · rw [if_pos (look_some.mpr h), if_pos h, List.map_map]
    apply List.map_congr_left
    intro p _
    simp only [Function.comp]
    split <;> rfl
  · rw [if_neg (fun z => h (look_some.mp z)), if_neg h, List.map_append]; rfl
theorem put_nodup {m : List (α × D)} {a : α} {v : D} (h : (m.map (·.1)).Nodup) : ((putA m a v).map (·.1)).Nodup := by
  rw [put_keys]
  split
  · exact h
  · rename_i n
    exact List.nodup_append.mpr ⟨h, by simp, fun x hx y hy z => n (by rw [List.mem_singleton] at hy; rw [← hy, ← z]; exact hx)⟩
theorem put_mem {m : List (α × D)} {a b : α} {v : D} : b ∈ (putA m a v).map (·.1) ↔ b = a ∨ b ∈ m.map (·.1) := by
  rw [put_keys]
  split
  · rename_i h
    exact ⟨.inr, fun z => z.elim (fun e => e ▸ h) id⟩
  · rw [List.mem_append, List.mem_singleton]
    exact ⟨fun z => z.elim .inr .inl, fun z => z.elim .inr .inl⟩
theorem put_len {m : List (α × D)} {a : α} {v : D} : (putA m a v).length ≤ m.length + 1 := by
  unfold putA
  split
  · rw [List.length_map]; omega
  · rw [List.length_append]; exact Nat.le_refl _
end
end DL
end
section
set_option Elab.async false
set_option linter.all false
set_option maxRecDepth 100000
set_option maxHeartbeats 4000000
/-! What the readings compute: names, looks, the growing store, loops. -/
namespace DL
open PySem PySem.Spec PyProof.Rows L2
theorem dVar_iff {i : Nat} {env : Ev} {G : Gp} {Q : DK} : dVar i env G Q ↔ (match env[i]? with | some (some d) => Q d G | _ => False) := by
  unfold dVar
  constructor
  · rintro ⟨d, e, q⟩
    rw [e]
    exact q
  · intro h
    split at h
    · exact ⟨_, by assumption, h⟩
    · exact h.elim
/-! ### the growing store -/
/-- what stands in G stands in G'; no new table -/
structure Ext (G G' : Gp) : Prop where
  old : ∀ a o, G a = some o → G' a = some o
  tb : ∀ a r, G' a = some (.tb r) → G a = some (.tb r)
instance {G G' : Gp} : CoeFun (Ext G G') (fun _ => ∀ a o, G a = some o → G' a = some o) := ⟨Ext.old⟩
theorem Ext.refl (G : Gp) : Ext G G := ⟨fun _ _ h => h, fun _ _ h => h⟩
theorem Ext.trans {G G1 G2 : Gp} (a : Ext G G1) (b : Ext G1 G2) : Ext G G2 := ⟨fun c o h => b.old c o (a.old c o h), fun c r h => a.tb c r (b.tb c r h)⟩
theorem Ext.put {G0 G : Gp} {p : Addr} {o : DO} (x : Ext G0 G) (h : G0 p = none) (nt : ∀ r, o ≠ .tb r := by intro _ z; cases z) : Ext G0 (up G p o) := ⟨fun a u e => by
  have ne : a ≠ p := fun z => by rw [z, h] at e; cases e
  rw [up_ne ne]
  exact x.old a u e, fun a r e => by
  by_cases z : a = p
  · subst z; rw [up_same] at e; exact absurd (Option.some.inj e) (nt r)
  · rw [up_ne z] at e; exact x.tb a r e⟩
theorem Ext.up {G : Gp} {p : Addr} {o : DO} (h : G p = none) (nt : ∀ r, o ≠ .tb r := by intro _ z; cases z) : Ext G (up G p o) := (Ext.refl G).put h nt
theorem Ext.under {G G1 : Gp} {p : Addr} {o : DO} (h : G p = none) (x : Ext (DL.up G p o) G1) (nt : ∀ r, o ≠ .tb r := by intro _ z; cases z) : Ext G G1 := (Ext.up h nt).trans x
theorem Ext.fresh {G G' : Gp} (x : Ext G G') {p : Addr} (h : G' p = none) : G p = none := by
  cases e : G p with
  | none => rfl
  | some o => rw [x.old p o e] at h; cases h
theorem Ext.ne {G G' : Gp} (x : Ext G G') {a p : Addr} {o : DO} (h : G a = some o) (hp : G' p = none) : a ≠ p := fun z => by
  rw [z] at h
  rw [x.old p o h] at hp
  cases hp
theorem ne_of {G : Gp} {a p : Addr} {o : DO} (h : G a = some o) (hp : G p = none) : a ≠ p := (Ext.refl G).ne h hp
theorem up_get {G : Gp} {a p : Addr} {o u : DO} (h : G a = some o) (hp : G p = none) : up G p u a = some o := by rw [up_ne (ne_of h hp)]; exact h
theorem lst_up {G : Gp} {p : Addr} {l : List D} : lstAt (up G p (.lst l)) p = some l := lstAt_lst up_same
theorem Ext.lst {G G' : Gp} (x : Ext G G') {a : Addr} {l : List D} (h : lstAt G a = some l) : lstAt G' a = some l := by
  unfold lstAt at h ⊢
  cases e : G a with
  | none => rw [e] at h; cases h
  | some o => rw [e] at h; rw [x.old a o e]; exact h
/-! ### looks -/
/-- a value that can be looked at: no function, no class; lists stand in the store -/
def Lk1 (G : Gp) : D → Prop
  | .gl _ => False
  | .ty _ => False
  | .ref a => (lstAt G a).isSome = true
  | _ => True
theorem Lk1.ext {G G' : Gp} (x : Ext G G') {d : D} (h : Lk1 G d) : Lk1 G' d := by
  cases d with
  | ref a =>
    have h' : (lstAt G a).isSome = true := h
    obtain ⟨l, e⟩ := Option.isSome_iff_exists.mp h'
    show (lstAt G' a).isSome = true
    rw [x.lst e]
    rfl
  | gl _ => exact h.elim
  | ty _ => exact h.elim
  | _ => trivial
theorem Lk1.okd {G : Gp} : ∀ {n : Nat} {d : D}, Okd n d → Lk1 G d
  | _, .non, _ => trivial
  | _, .bl _, _ => trivial
  | _, .int _, _ => trivial
  | _, .str _, _ => trivial
  | _, .tup _, _ => trivial
  | 0, .ref _, h => h.elim
  | _ + 1, .ref _, h => h.elim
  | 0, .gl _, h => h.elim
  | _ + 1, .gl _, h => h.elim
  | 0, .ty _, h => h.elim
  | _ + 1, .ty _, h => h.elim
def isIntD : D → Bool
  | .int _ => true
  | .bl _ => true
  | _ => false
def isBlD : D → Bool
  | .bl _ => true
  | _ => false
def isStrD : D → Bool
  | .str _ => true
  | _ => false
def isTupD : D → Bool
  | .tup _ => true
  | _ => false
def isLstD : D → Bool
  | .ref _ => true
  | _ => false
def tyK : D → String
  | .non => "NoneType"
  | .bl _ => "bool"
  | .int _ => "int"
  | .str _ => "str"
  | .tup _ => "tuple"
  | .ref _ => "list"
  | _ => ""
theorem tyD_lk {G : Gp} {x : D} (h : Lk1 G x) : tyD G x = some (tyK x) := by
  cases x with
  | gl _ => exact h.elim
  | ty _ => exact h.elim
  | ref a =>
    have h' : (lstAt G a).isSome = true := h
    unfold lstAt at h'
    show (match G a with | some (.lst _) => some "list" | some (.fl _) => some "list" | some (.dk _) => some "dict" | _ => none) = some "list"
    cases e : G a with
    | none => rw [e] at h'; cases h'
    | some o =>
      rw [e] at h'
      cases o <;> first | rfl | cases h'
  | _ => rfl
theorem isi_of {G : Gp} {x : D} {T : String} {b : Bool} {Q : DK} (h : Lk1 G x) (hb : kitB (tyK x) T = some b) (q : Q (.bl b) G) : oIsi [x, .ty T] G Q := ⟨x, T, _, b, rfl, tyD_lk h, hb, q⟩
theorem kit_int {G : Gp} {x : D} (h : Lk1 G x) : kitB (tyK x) "int" = some (isIntD x) := by cases x <;> first | exact h.elim | (simp only [tyK, isIntD, isBlD, isStrD, isTupD, isLstD]; decide +kernel)
theorem kit_bool {G : Gp} {x : D} (h : Lk1 G x) : kitB (tyK x) "bool" = some (isBlD x) := by cases x <;> first | exact h.elim | (simp only [tyK, isIntD, isBlD, isStrD, isTupD, isLstD]; decide +kernel)
theorem kit_str {G : Gp} {x : D} (h : Lk1 G x) : kitB (tyK x) "str" = some (isStrD x) := by cases x <;> first | exact h.elim | (simp only [tyK, isIntD, isBlD, isStrD, isTupD, isLstD]; decide +kernel)
theorem kit_tuple {G : Gp} {x : D} (h : Lk1 G x) : kitB (tyK x) "tuple" = some (isTupD x) := by cases x <;> first | exact h.elim | (simp only [tyK, isIntD, isBlD, isStrD, isTupD, isLstD]; decide +kernel)
theorem kit_list {G : Gp} {x : D} (h : Lk1 G x) : kitB (tyK x) "list" = some (isLstD x) := by cases x <;> first | exact h.elim | (simp only [tyK, isIntD, isBlD, isStrD, isTupD, isLstD]; decide +kernel)
theorem isi_int {G : Gp} {x : D} {Q : DK} (h : Lk1 G x) (q : Q (.bl (isIntD x)) G) : oIsi [x, .ty "int"] G Q := isi_of h (kit_int h) q
theorem isi_bool {G : Gp} {x : D} {Q : DK} (h : Lk1 G x) (q : Q (.bl (isBlD x)) G) : oIsi [x, .ty "bool"] G Q := isi_of h (kit_bool h) q
theorem isi_str {G : Gp} {x : D} {Q : DK} (h : Lk1 G x) (q : Q (.bl (isStrD x)) G) : oIsi [x, .ty "str"] G Q := isi_of h (kit_str h) q
theorem isi_tuple {G : Gp} {x : D} {Q : DK} (h : Lk1 G x) (q : Q (.bl (isTupD x)) G) : oIsi [x, .ty "tuple"] G Q := isi_of h (kit_tuple h) q
theorem isi_list {G : Gp} {x : D} {Q : DK} (h : Lk1 G x) (q : Q (.bl (isLstD x)) G) : oIsi [x, .ty "list"] G Q := isi_of h (kit_list h) q
/-! ### operators -/
section
variable {α β : Type} [DecidableEq α] [Enc α] [DecidableEq β] [Enc β] {G : Gp} {Q : DK}
theorem eqE {x y : D} (a b : α) (q : Q (.bl (decide (a = b))) G) (hx : x = enc a := by rfl) (hy : y = enc b := by rfl) (h : Enc.dep α ≤ 8 := by decide) : oEqA x y G Q := by
  subst hx; subst hy
  exact .inl ⟨_, _, .dat (okd8 a h), .dat (okd8 b h), by rw [Enc.eqv]; exact q⟩
theorem neE {x y : D} (a b : α) (q : Q (.bl (!decide (a = b))) G) (hx : x = enc a := by rfl) (hy : y = enc b := by rfl) (h : Enc.dep α ≤ 8 := by decide) : oNeA x y G Q := by
  subst hx; subst hy
  exact .inl ⟨_, _, .dat (okd8 a h), .dat (okd8 b h), by rw [Enc.eqv]; exact q⟩
theorem ne_bl {a b : Bool} (q : Q (.bl (a != b)) G) : oNeA (.bl a) (.bl b) G Q := .inl ⟨_, _, .dat okd_bl, .dat okd_bl, by
  have : PyData.eqv (D.bl a).toP (D.bl b).toP = decide (a = b) := by
    rw [D.toP, D.toP]; simp only [PyData.eqv]; exact PySem.W.beq_decide a b
  rw [this]
  have : (!decide (a = b)) = (a != b) := by cases a <;> cases b <;> rfl
  rw [this]; exact q⟩
theorem eq_nil {a b : Addr} {l : List D} (ha : lstAt G a = some l) (hb : lstAt G b = some []) (q : Q (.bl l.isEmpty) G) : oEqA (.ref a) (.ref b) G Q := .inr ⟨a, b, l, rfl, rfl, ha, hb, q⟩
theorem ne_nil {a b : Addr} {l : List D} (ha : lstAt G a = some l) (hb : lstAt G b = some []) (q : Q (.bl (!l.isEmpty)) G) : oNeA (.ref a) (.ref b) G Q := .inr (.inl ⟨a, b, l, rfl, rfl, ha, hb, q⟩)
theorem ne_lists {a b : Addr} (l m : List α) (ha : lstAt G a = some (l.map enc)) (hb : lstAt G b = some (m.map enc)) (q : Q (.bl (!decide (l = m))) G) (h : Enc.dep α ≤ 8 := by decide) : oNeA (.ref a) (.ref b) G Q :=
  .inl ⟨_, _, .lst ha (okds l h), .lst hb (okds m h), by
    have := Enc.eqv l m
    rw [show (Enc.enc l : D) = D.tup (l.map enc) from rfl, show (Enc.enc m : D) = D.tup (m.map enc) from rfl, D.toP, D.toP] at this
    simp only [PyData.eqv, toPs_map] at this
    simp only [PyData.eqv]
    rw [this]
    exact q⟩
theorem ltE {x y : D} (a b : α) (q : Q (.bl (ltD (enc a) (enc b))) G) (hx : x = enc a := by rfl) (hy : y = enc b := by rfl) (h : Enc.dep α ≤ 8 := by decide) : oLt x y G Q := by
  subst hx; subst hy
  exact .inr ⟨⟨okd8 a h, okd8 b h, Enc.alike a b, Enc.nn a⟩, q⟩
theorem leA_enc {x y : D} (a b : α) (q : Q (.bl (leE a b)) G) (hx : x = enc a := by rfl) (hy : y = enc b := by rfl) (h : Enc.dep α ≤ 8 := by decide) : oLeA x y G Q := by
  subst hx; subst hy
  exact .inr ⟨⟨okd8 a h, okd8 b h, Enc.alike a b, Enc.nn a⟩, q⟩
theorem lt_i {i j : Int} (q : Q (.bl (decide (i < j))) G) : oLt (.int i) (.int j) G Q := .inl ⟨i, j, rfl, rfl, q⟩
theorem le_i {i j : Int} (q : Q (.bl (decide (i ≤ j))) G) : oLeA (.int i) (.int j) G Q := .inl ⟨i, j, rfl, rfl, q⟩
theorem gt_i {i j : Int} (q : Q (.bl (decide (j < i))) G) : oGt (.int i) (.int j) G Q := ⟨i, j, rfl, rfl, q⟩
theorem ge_i {i j : Int} (q : Q (.bl (decide (j ≤ i))) G) : oGe (.int i) (.int j) G Q := ⟨i, j, rfl, rfl, q⟩
theorem add_i {i j : Int} (q : Q (.int (i + j)) G) : oAdd (.int i) (.int j) G Q := .inl ⟨i, j, rfl, rfl, q⟩
theorem add_t {l m : List D} (h : l.length + m.length ≤ sizeLine) (q : Q (.tup (l ++ m)) G) : oAdd (.tup l) (.tup m) G Q := .inr (.inr (.inl ⟨l, m, rfl, rfl, h, q⟩))
theorem add_l {a b : Addr} {l m : List D} (ha : G a = some (.lst l)) (hb : G b = some (.lst m)) (h : l.length + m.length ≤ sizeLine) (q : ∀ p, G p = none → Q (.ref p) (up G p (.lst (l ++ m)))) : oAdd (.ref a) (.ref b) G Q := .inr (.inr (.inr ⟨a, b, l, m, rfl, rfl, ha, hb, h, q⟩))
theorem sub_i {i j : Int} (q : Q (.int (i - j)) G) : oSub (.int i) (.int j) G Q := ⟨i, j, rfl, rfl, q⟩
theorem ip_i {g : Int → Int → Int} {i j : Int} (q : Q (.int (g i j)) G) : oIp g (.int i) (.int j) G Q := ⟨i, j, rfl, rfl, q⟩
theorem ix_t {l : List D} {i : Int} {d : D} (h : atI l i = some d) (q : Q d G) : oIxA (.tup l) (.int i) G Q := .inl ⟨d, h, q⟩
theorem ix_l {a : Addr} {l : List D} {i : Int} {d : D} (e : lstAt G a = some l) (h : atI l i = some d) (q : Q d G) : oIxA (.ref a) (.int i) G Q := by
  refine .inl ⟨d, ?_, q⟩
  unfold lstAt at e
  show (match G a with
    | some (.lst l) => atI l i
    | some (.fl l) => atI l i
    | some (.dk kvs) => (keyOf (.int i)).bind (valK kvs)
    | _ => none) = some d
  cases z : G a with
  | none => rw [z] at e; cases e
  | some o =>
    rw [z] at e
    cases o <;> first | (injection e with e; subst e; exact h) | cases e
theorem ix_k {a : Addr} {kvs : List (Key × D)} {y : D} {k : Key} {d : D} (e : G a = some (.dk kvs)) (hk : keyOf y = some k) (h : valK kvs k = some d) (q : Q d G) : oIxA (.ref a) y G Q := by
  refine .inl ⟨d, ?_, q⟩
  have : ixD G (.ref a) y = (keyOf y).bind (valK kvs) := by
    unfold ixD
    simp only [e]
  rw [this, hk]
  exact h
theorem ix_n {a : Addr} {m : List (α × D)} {y : D} (b : α) {d : D} (e : dnOf G a = some (encM m)) (hy : y = enc b) (ht : ∃ l, enc b = .tup l) (h : look m b = some d) (q : Q d G) (h8 : Enc.dep α ≤ 8 := by decide) : oIxA (.ref a) y G Q := by
  subst hy
  obtain ⟨l, hl⟩ := ht
  exact .inr ⟨a, _, l, key b, d, rfl, hl, e, by rw [← hl]; exact Enc.nk_key b, key8 b h8, by rw [look_enc]; exact h, q⟩
theorem nin_n {a : Addr} {m : List (α × D)} {y : D} (b : α) (e : dnOf G a = some (encM m)) (hy : y = enc b) (ht : ∃ l, enc b = .tup l) (q : Q (.bl (!(look m b).isSome)) G) (h8 : Enc.dep α ≤ 8 := by decide) : oNinA y (.ref a) G Q := by
  subst hy
  obtain ⟨l, hl⟩ := ht
  exact .inr ⟨a, _, l, key b, hl, rfl, e, by rw [← hl]; exact Enc.nk_key b, key8 b h8, by rw [look_enc]; exact q⟩
theorem in_n {a : Addr} {m : List (α × D)} {y : D} (b : α) (e : dnOf G a = some (encM m)) (hy : y = enc b) (ht : ∃ l, enc b = .tup l) (q : Q (.bl (look m b).isSome) G) (h8 : Enc.dep α ≤ 8 := by decide) : oInA y (.ref a) G Q := by
  subst hy
  obtain ⟨l, hl⟩ := ht
  exact .inr ⟨a, _, l, key b, hl, rfl, e, by rw [← hl]; exact Enc.nk_key b, key8 b h8, by rw [look_enc]; exact q⟩
theorem any_eqv (l : List α) (a : α) : ((l.map enc).any fun y => PyData.eqv y.toP (enc a).toP) = decide (a ∈ l) := by
  induction l with
  | nil => rfl
  | cons x l ih =>
    rw [List.map_cons, List.any_cons, ih, Enc.eqv]
    by_cases h : x = a
    · simp [h]
    · have : ¬ a = x := fun z => h z.symm
      simp [h, this]
theorem nin_t {l : List α} {x : D} (a : α) (hx : x = enc a) (q : Q (.bl (!decide (a ∈ l))) G) (h : Enc.dep α ≤ 8 := by decide) : oNinA x (.tup (l.map enc)) G Q := by
  subst hx
  exact .inl ⟨_, .tup (okd8 a h) (okds l h), by rw [any_eqv]; exact q⟩
theorem in_t {l : List α} {x : D} (a : α) (hx : x = enc a) (q : Q (.bl (decide (a ∈ l))) G) (h : Enc.dep α ≤ 8 := by decide) : oInA x (.tup (l.map enc)) G Q := by
  subst hx
  exact .inl ⟨_, .tup (okd8 a h) (okds l h), by rw [any_eqv]; exact q⟩
theorem nin_l {l : List α} {x : D} {p : Addr} (a : α) (e : lstAt G p = some (l.map enc)) (hx : x = enc a) (q : Q (.bl (!decide (a ∈ l))) G) (h : Enc.dep α ≤ 8 := by decide) : oNinA x (.ref p) G Q := by
  subst hx
  exact .inl ⟨_, .lst e (okd8 a h) (okds l h), by rw [any_eqv]; exact q⟩
/-! ### built-ins -/
theorem len_t {l : List D} (q : Q (.int l.length) G) : oLen [.tup l] G Q := ⟨_, _, rfl, rfl, q⟩
theorem len_l {a : Addr} {l : List D} (e : lstAt G a = some l) (q : Q (.int l.length) G) : oLen [.ref a] G Q := by
  refine ⟨_, l.length, rfl, ?_, q⟩
  unfold lstAt at e
  show (match G a with
    | some (.lst l) => some l.length
    | some (.fl l) => some l.length
    | some (.dk kvs) => some kvs.length
    | _ => none) = some l.length
  cases z : G a with
  | none => rw [z] at e; cases e
  | some o =>
    rw [z] at e
    cases o <;> first | (injection e with e; subst e; rfl) | cases e
theorem tup_l {a : Addr} {l : List D} (e : lstAt G a = some l) (q : Q (.tup l) G) : oTupOf [.ref a] G Q := ⟨_, l, rfl, e, q⟩
theorem tup_t {l : List D} (q : Q (.tup l) G) : oTupOf [.tup l] G Q := ⟨_, l, rfl, rfl, q⟩
theorem list_l {a : Addr} {l : List D} (e : lstAt G a = some l) (q : ∀ p, G p = none → Q (.ref p) (up G p (.lst l))) : oListA [.ref a] G Q := .inl ⟨_, l, rfl, e, q⟩
theorem list_t {l : List D} (q : ∀ p, G p = none → Q (.ref p) (up G p (.lst l))) : oListA [.tup l] G Q := .inl ⟨_, l, rfl, rfl, q⟩
theorem list_n {a : Addr} {m : List (α × D)} (e : dnOf G a = some (encM m)) (q : ∀ p, G p = none → Q (.ref p) (up G p (.lst ((m.map (·.1)).map enc)))) : oListA [.ref a] G Q := .inr ⟨a, _, rfl, e, by rw [encM_keys]; exact q⟩
theorem all_l {a : Addr} (bs : List Bool) (e : lstAt G a = some (bs.map D.bl)) (q : Q (.bl (bs.all id)) G) : oAll [.ref a] G Q := ⟨a, bs, rfl, e, q⟩
/-- what sorted takes: no empty tuples among tuples -/
def Srt1 (l : List α) : Prop := (∀ a ∈ l, ∃ x r, enc a = .tup (x :: r)) ∨ ∀ a ∈ l, enc a ≠ .non ∧ ∀ r, enc a ≠ .tup r
theorem srt1 {l : List α} (h : Srt1 l) : (∀ d ∈ l.map enc, ∃ x r, d = .tup (x :: r)) ∨ ∀ d ∈ l.map enc, d ≠ .non ∧ ∀ r, d ≠ .tup r := by
  rcases h with h | h
  · left; intro d hd; obtain ⟨a, ha, rfl⟩ := List.mem_map.mp hd; exact h a ha
  · right; intro d hd; obtain ⟨a, ha, rfl⟩ := List.mem_map.mp hd; exact h a ha
theorem srt1_lists {l : List (List α)} (h : ∀ a ∈ l, a ≠ []) : Srt1 l := .inl fun a ha => by
  cases a with
  | nil => exact (h _ ha rfl).elim
  | cons x r => exact ⟨enc x, r.map enc, rfl⟩
theorem srt1_strs {l : List Str} : Srt1 l := .inr fun a _ => ⟨(by intro z; cases z), by intro r z; cases z⟩
theorem sorted_l {a : Addr} {l : List α} (e : lstAt G a = some (l.map enc)) (hs : Srt1 l) (q : ∀ p, G p = none → Q (.ref p) (up G p (.lst ((srt l).map enc)))) (h : Enc.dep α ≤ 8 := by decide) : oSortedA [.ref a] G Q :=
  .inl ⟨a, _, rfl, e, okds l h, alikes l, srt1 hs, fun p hp => by rw [srt_map]; exact q p hp⟩
theorem sorted_n {a : Addr} {m : List (α × D)} (e : dnOf G a = some (encM m)) (hs : Srt1 (m.map (·.1))) (q : ∀ p, G p = none → Q (.ref p) (up G p (.lst ((srt (m.map (·.1))).map enc)))) (h : Enc.dep α ≤ 8 := by decide) : oSortedA [.ref a] G Q :=
  .inr ⟨a, _, rfl, e, by rw [encM_keys]; exact ⟨okds _ h, alikes _, srt1 hs⟩, fun p hp => by rw [encM_keys, srt_map]; exact q p hp⟩
end
/-! ### loops -/
theorem forD_map {β : Type} {f : β → D} {l : List β} {g : TDG} {t : TDS} {st : Gp → Prop} {DD : DEnds} {env : Ev} {G : Gp} (P : List β → Ev → Gp → Prop) (h0 : P [] env G) (nil : ∀ env G, P l env G → st G ∧ DD.nx env G)
    (cons : ∀ pre x post env G (K : Ev → Gp → Prop), l = pre ++ x :: post → P pre env G → (∀ env' G', P (pre ++ [x]) env' G' → K env' G') → st G ∧ g (f x) env G fun env' G' => t { DD with nx := K, ct := K, bk := DD.nx } env' G') : forD g t st DD (l.map f) env G := by
  have key : ∀ (post pre : List β) (env : Ev) (G : Gp), l = pre ++ post → P pre env G → forD g t st DD (post.map f) env G := by
    intro post
    induction post with
    | nil => intro pre env G e h; rw [List.append_nil] at e; subst e; exact nil env G h
    | cons x post ih =>
      intro pre env G e h
      rw [List.map_cons]
      exact cons pre x post env G _ e h fun env' G' h' => ih (pre ++ [x]) env' G' (by rw [e]; simp) h'
  exact key l [] env G rfl h0
theorem dWhile_ind {u : TDT} {t : TDS} {DD : DEnds} {env : Ev} {G : Gp} (P : Nat → Ev → Gp → Prop) (n : Nat) (h : P n env G)
    (step : ∀ n env G (K : Ev → Gp → Prop), P n env G → (∀ m env' G', m < n → P m env' G' → K env' G') → u env G fun b G1 => if b = true then t { DD with nx := K, ct := K, bk := DD.nx } env G1 else DD.nx env G1) : dWhile u t DD env G := by
  have key : ∀ (k n : Nat) (env : Ev) (G : Gp), n < k → P n env G → whD u t DD k env G := by
    intro k
    induction k with
    | zero => intro n env G h; omega
    | succ k ih =>
      intro n env G hn h
      exact step n env G _ h fun m env' G' hm h' => ih m env' G' (by omega) h'
  exact ⟨n + 1, key (n + 1) n env G (Nat.lt_succ_self n) h⟩
/-- a comprehension over Lean values whose turns keep to a growing store -/
theorem mapD_map {β γ : Type} {f : β → D} {l : List β} {st : Gp → Prop} {turn : D → Gp → (Option D → Gp → Prop) → Prop} {G : Gp} {Q : List D → Gp → Prop} (h : β → Option γ) (e : γ → D) (hst : ∀ G', Ext G G' → st G')
    (ht : ∀ x, x ∈ l → ∀ G1 R, Ext G G1 → (∀ G2, Ext G1 G2 → R ((h x).map e) G2) → turn (f x) G1 R) (q : ∀ G', Ext G G' → Q ((l.filterMap h).map e) G') : mapD st turn (l.map f) [] G Q := by
  have key : ∀ (l : List β) (acc : List D) (G1 : Gp), Ext G G1 → (∀ x, x ∈ l → ∀ G1 R, Ext G G1 → (∀ G2, Ext G1 G2 → R ((h x).map e) G2) → turn (f x) G1 R) → (∀ G', Ext G G' → Q (acc ++ (l.filterMap h).map e) G') → mapD st turn (l.map f) acc G1 Q := by
    intro l
    induction l with
    | nil => intro acc G1 x _ q; exact ⟨hst G1 x, by simpa using q G1 x⟩
    | cons b l ih =>
      intro acc G1 x ht q
      rw [List.map_cons]
      refine ⟨hst G1 x, ht b List.mem_cons_self G1 _ x fun G2 x2 => ?_⟩
      refine ih _ G2 (x.trans x2) (fun c hc => ht c (List.mem_cons_of_mem _ hc)) fun G' x' => ?_
      have := q G' x'
      rw [List.filterMap_cons] at this
      cases hb : h b with
      | none => rw [hb] at this; simpa using this
      | some y => rw [hb] at this; simpa using this
  exact key l [] G (Ext.refl G) ht (by simpa using q)
/-- a comprehension whose turns keep to a growing store; acc: what is found -/
theorem mapD_ext {st : Gp → Prop} {turn : D → Gp → (Option D → Gp → Prop) → Prop} (h : D → Option D) {G0 : Gp} (hst : ∀ G, Ext G0 G → st G) : ∀ (items acc : List D) (G : Gp) (Q : List D → Gp → Prop), Ext G0 G →
    (∀ d ∈ items, ∀ G1 R, Ext G0 G1 → (∀ G2, Ext G1 G2 → R (h d) G2) → turn d G1 R) → (∀ G', Ext G G' → Q (acc ++ items.filterMap h) G') → mapD st turn items acc G Q
  | [], acc, G, Q, e, _, q => ⟨hst G e, by simpa using q G (Ext.refl G)⟩
  | d :: r, acc, G, Q, e, ht, q => ⟨hst G e, ht d List.mem_cons_self G _ e fun G2 e2 => mapD_ext h hst r (acc ++ (h d).toList) G2 Q (e.trans e2) (fun x hx => ht x (List.mem_cons_of_mem _ hx)) fun G' e' => by
      have := q G' (e2.trans e')
      rw [List.filterMap_cons] at this
      cases hd : h d with
      | none => rw [hd] at this; simpa using this
      | some y => rw [hd] at this; simpa using this⟩

theorem mapB_map {β γ : Type} {f : β → D} {l : List β} {st : Gp → Prop} {turn : D → Gp → (Option D → Gp → Prop) → Prop} {G : Gp} {Q : List D → Gp → Prop} (acc : List γ) (h : β → γ) (e : γ → D) (hst : ∀ G', Ext G G' → st G')
    (ht : ∀ x, x ∈ l → ∀ G1 R, Ext G G1 → (∀ G2, Ext G1 G2 → R (some (e (h x))) G2) → turn (f x) G1 R) (hB : acc.length + l.length ≤ sizeLine) (q : ∀ G', Ext G G' → Q ((acc ++ l.map h).map e) G') : mapB st turn (l.map f) (acc.map e) G Q := by
  have key : ∀ (l : List β) (acc : List γ) (G1 : Gp), Ext G G1 → (∀ x, x ∈ l → ∀ G1 R, Ext G G1 → (∀ G2, Ext G1 G2 → R (some (e (h x))) G2) → turn (f x) G1 R) → acc.length + l.length ≤ sizeLine → (∀ G', Ext G G' → Q ((acc ++ l.map h).map e) G') → mapB st turn (l.map f) (acc.map e) G1 Q := by
    intro l
    induction l with
    | nil => intro acc G1 x _ _ q; exact ⟨hst G1 x, by simpa using q G1 x⟩
    | cons b l ih =>
      intro acc G1 x ht hB q
      rw [List.map_cons]
      refine ⟨hst G1 x, by rw [List.length_map]; simp at hB; omega, ht b List.mem_cons_self G1 _ x fun G2 x2 => ?_⟩
      have := ih (acc ++ [h b]) G2 (x.trans x2) (fun c hc => ht c (List.mem_cons_of_mem _ hc)) (by simp at hB ⊢; omega) fun G' x' => by simpa using q G' x'
      simpa using this
  exact key l acc G (Ext.refl G) ht hB q
theorem outD_map {β γ : Type} {f : β → D} {l : List β} {st : Gp → Prop} {turn : D → List D → Gp → (List D → Gp → Prop) → Prop} {G : Gp} {Q : List D → Gp → Prop} (B : Nat) (h : β → List γ) (e : γ → D) (hst : ∀ G', Ext G G' → st G')
    (ht : ∀ x, x ∈ l → ∀ (acc : List γ) G1 R, Ext G G1 → acc.length + (h x).length ≤ B → (∀ G2, Ext G1 G2 → R ((acc ++ h x).map e) G2) → turn (f x) (acc.map e) G1 R) (hB : (l.flatMap h).length ≤ B) (q : ∀ G', Ext G G' → Q ((l.flatMap h).map e) G') : outD st turn (l.map f) [] G Q := by
  have key : ∀ (l : List β) (acc : List γ) (G1 : Gp), Ext G G1 → (∀ x, x ∈ l → ∀ (acc : List γ) G1 R, Ext G G1 → acc.length + (h x).length ≤ B → (∀ G2, Ext G1 G2 → R ((acc ++ h x).map e) G2) → turn (f x) (acc.map e) G1 R) → acc.length + (l.flatMap h).length ≤ B → (∀ G', Ext G G' → Q ((acc ++ l.flatMap h).map e) G') → outD st turn (l.map f) (acc.map e) G1 Q := by
    intro l
    induction l with
    | nil => intro acc G1 x _ _ q; exact ⟨hst G1 x, by simpa using q G1 x⟩
    | cons b l ih =>
      intro acc G1 x ht hB q
      rw [List.map_cons]
      rw [List.flatMap_cons, List.length_append] at hB
      refine ⟨hst G1 x, ht b List.mem_cons_self acc G1 _ x (by omega) fun G2 x2 => ?_⟩
      exact ih (acc ++ h b) G2 (x.trans x2) (fun c hc => ht c (List.mem_cons_of_mem _ hc)) (by rw [List.length_append]; omega) fun G' x' => by
        have := q G' x'
        rwa [List.flatMap_cons, ← List.append_assoc] at this
  exact key l [] G (Ext.refl G) ht (by simpa using hB) (by simpa using q)
theorem enumD_zip {β : Type} {f : β → D} : ∀ (l : List β) (i : Nat), enumD i (l.map f) = (l.zipIdx i).map fun p => .tup [.int (p.2 : Nat), f p.1]
  | [], _ => rfl
  | x :: l, i => by rw [List.map_cons, enumD, enumD_zip l (i + 1), List.zipIdx_cons, List.map_cons]
theorem zipIdx_split {β : Type} {l : List β} {i : Nat} {pre post : List (β × Nat)} {x : β × Nat} (h : l.zipIdx i = pre ++ x :: post) : x.2 = i + pre.length ∧ l = pre.map (·.1) ++ x.1 :: post.map (·.1) := by
  constructor
  · have e : (l.zipIdx i)[pre.length]? = some x := by rw [h]; simp
    rw [List.getElem?_zipIdx] at e
    cases q : l[pre.length]? with
    | none => rw [q] at e; cases e
    | some y => rw [q] at e; cases e; rfl
  · have := congrArg (List.map (·.1)) h
    rw [List.zipIdx_map_fst] at this
    simpa using this
theorem sz_of {n : Nat} (h : n ≤ 16000000) : n ≤ sizeLine := by rw [sizeLine_eq]; omega
theorem sz_lt {n : Nat} (h : n < 16000000) : n < sizeLine := by rw [sizeLine_eq]; omega
theorem some_lst {G : Gp} {a : Addr} {l : List D} (h : lstAt G a = some l) : ∃ p, D.ref a = .ref p ∧ (lstAt G p).isSome = true := ⟨a, rfl, by rw [h]; rfl⟩
theorem ext_m {a : Addr} {l m : List D} {b : Addr} {G : Gp} {Q : DK} (h : G a = some (.lst l)) (hb : G b = some (.lst m)) (z : l.length + m.length ≤ 16000000) (q : Q .non (up G a (.lst (l ++ m)))) : oExtend (.ref a) [.ref b] G Q := ⟨a, b, l, m, rfl, rfl, h, hb, sz_of z, q⟩
theorem app_m {a : Addr} {l : List D} {x : D} {G : Gp} {Q : DK} (h : G a = some (.lst l)) (z : l.length < 16000000) (q : Q .non (up G a (.lst (l ++ [x])))) : oAppend (.ref a) [x] G Q := ⟨a, l, x, rfl, rfl, h, sz_lt z, q⟩
theorem cut_tail (l : List D) (n : Nat) : DL.cutD l (some (n : Int)) none = l.drop n := by
  unfold DL.cutD
  rw [HT.sIx_nat, HT.sIx_none]
  by_cases h : n ≤ l.length
  · rw [Nat.min_eq_left h, List.take_of_length_le (by simp)]
  · rw [Nat.min_eq_right (by omega), Nat.sub_self, List.take_zero, List.drop_of_length_le (by omega)]
theorem cut_head (l : List D) (n : Nat) : DL.cutD l none (some (n : Int)) = l.take n := by
  unfold DL.cutD
  rw [HT.sIx_nat, HT.sIx_none, List.drop_zero, Nat.sub_zero]
  by_cases h : n ≤ l.length
  · rw [Nat.min_eq_left h]
  · rw [Nat.min_eq_right (by omega), List.take_length, List.take_of_length_le (by omega)]
theorem cut_mid (l : List D) (a b : Nat) : DL.cutD l (some (a : Int)) (some (b : Int)) = (l.drop a).take (b - a) := by
  unfold DL.cutD
  rw [HT.sIx_nat, HT.sIx_nat]
  by_cases h : a ≤ l.length
  · rw [Nat.min_eq_left h]
    by_cases k : b ≤ l.length
    · rw [Nat.min_eq_left k]
    · rw [Nat.min_eq_right (by omega), List.take_of_length_le (by simp), List.take_of_length_le (by simp; omega)]
  · rw [Nat.min_eq_right (by omega : l.length ≤ a), List.drop_of_length_le (Nat.le_refl _), List.drop_of_length_le (by omega)]
    simp
theorem zipD_map {β γ : Type} {f : β → D} {g : γ → D} : ∀ (y : List β) (z : List γ), zipD (y.map f) (z.map g) = (y.zip z).map fun p => .tup [f p.1, g p.2]
  | [], _ => rfl
  | _ :: _, [] => rfl
  | a :: y, b :: z => by
    have := zipD_map (f := f) (g := g) y z
    unfold zipD at this ⊢
    rw [List.map_cons, List.map_cons, List.zipWith_cons_cons, this, List.zip_cons_cons, List.map_cons]
theorem filterMap_if {β : Type} (P : β → Prop) [DecidablePred P] : ∀ l : List β, (l.filterMap fun c => if P c then none else some c) = l.filter fun c => decide (¬ P c)
  | [] => rfl
  | c :: l => by
    rw [List.filterMap_cons, List.filter_cons, filterMap_if P l]
    by_cases h : P c <;> simp [h]
theorem lst_up_ne {G : Gp} {a p : Addr} {l : List D} {u : DO} (hp : up G a (.lst l) p = none) : lstAt (up (up G a (.lst l)) p u) a = some l := by
  have ne : a ≠ p := fun z => by rw [z, up_same] at hp; cases hp
  refine lstAt_lst ?_
  rw [up_ne ne, up_same]
theorem find_erase {α : Type} [DecidableEq α] [Enc α] [BEq α] [LawfulBEq α] (b : α) : ∀ l : List α, b ∈ l → ∃ j, ((l.map enc).findIdx? fun d => PyData.eqv d.toP (enc b).toP) = some j ∧ (l.map enc).eraseIdx j = (l.erase b).map enc
  | [], h => by cases h
  | x :: l, h => by
    rw [List.map_cons, List.findIdx?_cons, Enc.eqv]
    by_cases e : x = b
    · subst e
      exact ⟨0, by simp, by simp⟩
    · obtain ⟨j, h1, h2⟩ := find_erase b l (by simpa [Ne.symm e] using h)
      refine ⟨j + 1, by rw [h1]; simp [e], ?_⟩
      rw [List.eraseIdx_cons_succ, h2, List.erase_cons_tail (by simpa using e), List.map_cons]
theorem rem_m {α : Type} [DecidableEq α] [Enc α] [BEq α] [LawfulBEq α] {G : Gp} {Q : DK} {a : Addr} {l : List α} {x : D} (b : α) (h : G a = some (.lst (l.map enc))) (hx : x = enc b) (hb : b ∈ l) (q : Q .non (up G a (.lst ((l.erase b).map enc)))) (h8 : Enc.dep α ≤ 8 := by decide) : oRemove (.ref a) [x] G Q := by
  subst hx
  obtain ⟨j, h1, h2⟩ := find_erase b l hb
  exact ⟨a, _, _, j, rfl, rfl, h, okds l h8, okd8 b h8, h1, by rw [h2]; exact q⟩
theorem zipD_self {β : Type} {f g : β → D} : ∀ (y : List β), zipD (y.map f) (y.map g) = y.map fun p => .tup [f p, g p]
  | [] => rfl
  | a :: y => by
    have := zipD_self (f := f) (g := g) y
    unfold zipD at this ⊢
    rw [List.map_cons, List.map_cons, List.zipWith_cons_cons, this, List.map_cons]
theorem eq_emp {l : List D} {G : Gp} {Q : DK} (h : Okd 8 (.tup l)) (q : Q (.bl l.isEmpty) G) : oEqA (.tup l) (.tup []) G Q := by
  refine .inl ⟨_, _, .dat h, .dat (d := .tup []) (fun d hd => by cases hd), ?_⟩
  have e : PyData.eqv (D.tup l).toP (D.tup []).toP = l.isEmpty := by
    rw [D.toP, D.toP]
    simp only [PyData.eqv, toPs]
    cases l with
    | nil => simp only [toPs, PyData.eqvAll]; rfl
    | cons x l => simp only [toPs, PyData.eqvAll]; rfl
  rw [e]; exact q
theorem ne_emp {l : List D} {G : Gp} {Q : DK} (h : Okd 8 (.tup l)) (q : Q (.bl (!l.isEmpty)) G) : oNeA (.tup l) (.tup []) G Q := by
  refine .inl ⟨_, _, .dat h, .dat (d := .tup []) (fun d hd => by cases hd), ?_⟩
  have e : PyData.eqv (D.tup l).toP (D.tup []).toP = l.isEmpty := by
    rw [D.toP, D.toP]
    simp only [PyData.eqv, toPs]
    cases l with
    | nil => simp only [toPs, PyData.eqvAll]; rfl
    | cons x l => simp only [toPs, PyData.eqvAll]; rfl
  rw [e]; exact q
/-- a comprehension whose results are told by a relation -/
theorem mapD_rel {β : Type} {f : β → D} {l : List β} {st : Gp → Prop} {turn : D → Gp → (Option D → Gp → Prop) → Prop} {G : Gp} {Q : List D → Gp → Prop} (P : List β → List D → Gp → Prop) (h0 : P [] [] G) (hst : ∀ pre acc G', P pre acc G' → st G')
    (ht : ∀ pre x post acc G1 (K : Option D → Gp → Prop), l = pre ++ x :: post → P pre acc G1 → (∀ o G2, P (pre ++ [x]) (acc ++ o.toList) G2 → K o G2) → turn (f x) G1 K) (q : ∀ acc G', P l acc G' → Q acc G') : mapD st turn (l.map f) [] G Q := by
  have key : ∀ (post pre : List β) (acc : List D) (G1 : Gp), l = pre ++ post → P pre acc G1 → mapD st turn (post.map f) acc G1 Q := by
    intro post
    induction post with
    | nil => intro pre acc G1 e h; rw [List.append_nil] at e; subst e; exact ⟨hst _ _ _ h, q acc G1 h⟩
    | cons x post ih =>
      intro pre acc G1 e h
      rw [List.map_cons]
      exact ⟨hst _ _ _ h, ht pre x post acc G1 _ e h fun o G2 h2 => ih (pre ++ [x]) _ G2 (by rw [e]; simp) h2⟩
  exact key l [] [] G rfl h0
/-- what stands elsewhere stays; no new table -/
structure ExtE (k : Addr) (G G' : Gp) : Prop where
  old : ∀ a o, a ≠ k → G a = some o → G' a = some o
  tb : ∀ a r, G' a = some (.tb r) → G a = some (.tb r)
instance {k : Addr} {G G' : Gp} : CoeFun (ExtE k G G') (fun _ => ∀ a o, a ≠ k → G a = some o → G' a = some o) := ⟨ExtE.old⟩
theorem ExtE.refl (k : Addr) (G : Gp) : ExtE k G G := ⟨fun _ _ _ h => h, fun _ _ h => h⟩
theorem ExtE.trans {k : Addr} {G G1 G2 : Gp} (a : ExtE k G G1) (b : ExtE k G1 G2) : ExtE k G G2 := ⟨fun c o n h => b.old c o n (a.old c o n h), fun c r h => a.tb c r (b.tb c r h)⟩
theorem Ext.e {k : Addr} {G G' : Gp} (x : Ext G G') : ExtE k G G' := ⟨fun a o _ h => x.old a o h, x.tb⟩
theorem ExtE.put {k : Addr} {G G' : Gp} {o : DO} (x : ExtE k G G') (nt : ∀ r, o ≠ .tb r := by intro _ z; cases z) : ExtE k G (up G' k o) := ⟨fun a u n h => by rw [up_ne n]; exact x.old a u n h, fun a r e => by
  by_cases z : a = k
  · subst z; rw [up_same] at e; exact absurd (Option.some.inj e) (nt r)
  · rw [up_ne z] at e; exact x.tb a r e⟩
theorem ExtE.lst {k : Addr} {G G' : Gp} (x : ExtE k G G') {a : Addr} {l : List D} (n : a ≠ k) (h : lstAt G a = some l) : lstAt G' a = some l := by
  unfold lstAt at h ⊢
  cases e : G a with
  | none => rw [e] at h; cases h
  | some o => rw [e] at h; rw [x.old a o n e]; exact h
section
variable {α : Type} [DecidableEq α] [Enc α] {G : Gp}
theorem set_n {a : Addr} {m : List (α × D)} {i v : D} {Q : Gp → Prop} (b : α) (e : G a = some (.dn (encM m))) (hi : i = enc b) (ht : ∃ l, enc b = .tup l) (z : m.length < 16000000) (q : Q (up G a (.dn (encM (putA m b v))))) (h8 : Enc.dep α ≤ 8 := by decide) : oSetA (.ref a) i v G Q := by
  subst hi
  obtain ⟨l, hl⟩ := ht
  refine .inr (.inr ⟨a, encM m, l, key b, rfl, hl, e, by rw [← hl]; exact Enc.nk_key b, key8 b h8, sz_lt (by unfold encM; rw [List.length_map]; exact z), ?_⟩)
  rw [show D.tup l = enc b from hl.symm, put_enc]
  exact q
theorem dnl_of {a : Addr} {kvs : List (NestedKey × D × D)} (e : G a = some (.dn kvs)) : dnOf G a = some kvs := by unfold dnOf; rw [e]
theorem tup_of_list (l : List α) : ∃ m, enc l = D.tup m := ⟨_, rfl⟩
end
theorem up_getE {k : Addr} {G G' : Gp} {a : Addr} {o : DO} (x : ExtE k G G') (n : a ≠ k) (h : G a = some o) : G' a = some o := x.old a o n h
theorem snoc_ind {β : Type} {P : List β → Prop} (h0 : P []) (h1 : ∀ l x, P l → P (l ++ [x])) : ∀ l, P l := fun l => by
  have key : ∀ r : List β, P r.reverse := fun r => by
    induction r with
    | nil => exact h0
    | cons x r ih => rw [List.reverse_cons]; exact h1 _ x ih
  have := key l.reverse
  rwa [List.reverse_reverse] at this
theorem filterMap_some {β γ : Type} (f : β → γ) : ∀ l : List β, (l.filterMap fun x => some (f x)) = l.map f
  | [] => rfl
  | x :: l => by rw [List.filterMap_cons, filterMap_some f l]; rfl
end DL
end
section
set_option Elab.async false
set_option linter.all false
set_option maxRecDepth 100000
set_option maxHeartbeats 4000000
/-! A slice of a list of whole numbers that the fragment keeps (the script, where it stands there). -/
namespace DL
open PySem PySem.Spec PyProof.Rows L2
def KList (K : PySem.W.Frag) (a : Addr) (xs : List V) : Prop := ∀ H, SqL K H a xs
def dSlK (K : PySem.W.Frag) (ta : TD) (tl th : TDO) : TD := fun env G Q => ta env G fun x G1 => tl env G1 fun lo G2 => th env G2 fun hi G3 => ∃ (a : Addr) (ns : List Int), x = .ref a ∧ ns.length ≤ sizeLine ∧ KList K a (ns.map V.int) ∧ ∀ p, G3 p = none → Q (.ref p) (up G3 p (.lst (DL.cutD (ns.map D.int) lo hi)))
theorem rvs_intl {K : PySem.W.Frag} {m : Mg} {H : Hp} : ∀ ns : List Int, Rvs K m H (ns.map D.int) (ns.map V.int)
  | [] => rvs_nil
  | i :: ns => rvs_cons rv_int (rvs_intl ns)
section
variable {X : Cx} {a : Expr} {ta : TD} {pos : Pos}
theorem de_slK {lo hi : Option Expr} {tl th : TDO} {p2 : Pos} (ha : DE X a ta) (hl : DO_ X lo tl) (hh : DO_ X hi th) : DE X (.Subscript a (.Slice lo hi none p2) pos) (dSlK X.K ta tl th) :=
  de_of (pe_slice (SlR.or sl_list sl_tupA) ha hl hh) fun σ H env G Q Qv rs rg h k => ⟨env, G, _, rs, rg, h, fun x G1 v H1 q r rg1 f1 => ⟨env, G1, _, rs.mono (f1.keep rg), rg1, q, fun l0 G2 H2 q2 rg2 f2 =>
    ⟨env, G2, _, rs.mono ((f1.trans f2).keep rg), rg2, q2, fun h0 G3 H3 q3 rg3 f3 => by
      have f23 := f2.trans f3
      have f := f1.trans f23
      have r3 := r.mono (f23.keep rg1)
      obtain ⟨a, ns, rfl, hn, hk, q⟩ := q3
      rw [rv_ref_inv r3]
      refine .inl ⟨_, _, rfl, hk H3, fun p np => ?_⟩
      exact k _ _ _ _ (q p (rg3.fresh np)) rv_ref (new_lst rg3 np (rvs_cut (rvs_intl ns) l0 h0) (Nat.le_trans (cutD_length _ l0 h0) (by rw [List.length_map]; exact hn))) (f.trans (Fr.newS np))⟩⟩⟩
end
end DL
end
section
set_option Elab.async false
set_option linter.all false
set_option maxRecDepth 100000
set_option maxHeartbeats 4000000
/-! What the law leans on: _law_heard of a lambda; raising defs that do not raise. -/
namespace DL
open PySem PySem.Spec PyProof.Rows L2 LamX
abbrev calmX (sp : SpX) : SpD := fun ds G Q => sp ds G Q fun _ _ _ => False
/-- _law_heard(lambda: e) -/
abbrev HeardT (X : Cx) (k : Nat) (PT : Addr) (tk : Addr → Str → Prop) : Prop := ∀ (params : Arguments) (body : Expr) (scope : Scope) (lpos p pos : Pos) (t : TDX), LamS X.env.scope scope → defaultsOf params X.env = ([], []) →
  (∀ (q : Str) (cl : List (Str × Addr)) (pm cv ctv : Value), bindArgs (PySem.W.kla_fn "<lambda>" q params body scope cl pm cv ctv) ⟨[], []⟩ = pure []) →
  (∀ (A : Around) (outer : List Env) (s : Shared) (H : Hp) (E : XK) (f c' : Addr), Room k (A.deeper (lamEnv X scope s.heap.objs.size f c')) → DEX (lamCx X A outer s H E scope f c') body t) →
  DE X (.Call (.Name "_law_heard" p) [.Lambda params body scope lpos] [] pos) (dHeard PT (X.env.qual ++ "<lambda>") "told" tk t)
end DL
end
section
set_option Elab.async false
set_option linter.all false
set_option maxRecDepth 100000
namespace W81
open PySem PySem.Spec PyProof.Rows L2 DL
def top (i : Nat) : Stmt := PySem.Challenge.pw_everyboxout_k81_whole_classes_of_like_ya.main.body.getD i (.Pass ⟨0, 0, 0, 0⟩)
abbrev s_is_whole : Stmt := top 9
abbrev s_is_between : Stmt := top 10
abbrev s_is_name : Stmt := top 11
abbrev s_is_tuple_of : Stmt := top 12
abbrev s_is_column : Stmt := top 15
abbrev s_is_yard_value : Stmt := top 16
abbrev s_need_yard : Stmt := top 17
abbrev s_laid : Stmt := top 18
abbrev s_depth_of : Stmt := top 19
abbrev s_is_single : Stmt := top 20
abbrev s_pulled : Stmt := top 21
abbrev s_set_out_in : Stmt := top 22
abbrev s_kinds_in : Stmt := top 23
abbrev s_words_on : Stmt := top 26
abbrev s_words_of : Stmt := top 27
abbrev s_cuts_of : Stmt := top 28
abbrev s_cut_up : Stmt := top 29
abbrev s_yards_of : Stmt := top 30
abbrev s_like_classes : Stmt := top 31
abbrev s_pulls_from : Stmt := top 35
abbrev s_steps_on : Stmt := top 36
abbrev s_parting : Stmt := top 37
abbrev s_judge_like : Stmt := top 38
abbrev s__law_same : Stmt := top 40
abbrev s__law_set_out : Stmt := top 41
abbrev s__law_boxes : Stmt := top 42
abbrev s__law_in_columns : Stmt := top 43
abbrev s__law_deck : Stmt := top 44
abbrev s__law_draw : Stmt := top 45
abbrev s__law_pick : Stmt := top 46
abbrev s__law_all_yards : Stmt := top 47
abbrev s__law_own_classes : Stmt := top 48
abbrev s__law_heard : Stmt := top 49
abbrev s_law : Stmt := top 50
abbrev FnP (K : PySem.W.Frag) (x : Str) (st : Stmt) (f : Addr) (fd : FuncData) : Prop := FunD K x x (defArgs st) (defBody st) (defScope st) [] [] f fd
/-- the module's names -/
structure Gs (mg : Str → Option Value) (K : PySem.W.Frag) : Prop where
  isinstance : mg "isinstance" = none
  int : mg "int" = none
  bool : mg "bool" = none
  str : mg "str" = none
  tuple : mg "tuple" = none
  list : mg "list" = none
  all : mg "all" = none
  len : mg "len" = none
  zip : mg "zip" = none
  sorted : mg "sorted" = none
  enumerate : mg "enumerate" = none
  range : mg "range" = none
  sum : mg "sum" = none
  min : mg "min" = none
  max : mg "max" = none
  repr : mg "repr" = none
  super : mg "super" = none
  MOST : ∃ t, mg "MOST" = some (.int 1000000000000 t)
  LETTERS : ∃ t, mg "LETTERS" = some (.str "abcdefghijklmnopqrstuvwxyz" t)
  SIGNS : ∃ t, mg "SIGNS" = some (.str "abcdefghijklmnopqrstuvwxyz0123456789" t)
  LONGEST_NAME : ∃ t, mg "LONGEST_NAME" = some (.int 8 t)
  MOST_KINDS : ∃ t, mg "MOST_KINDS" = some (.int 400 t)
  MOST_COLUMNS : ∃ t, mg "MOST_COLUMNS" = some (.int 6 t)
  ALIKE : GTup mg K "ALIKE" ((["alike"] : List Str).map D.str) ((["alike"] : List Str).map V.str)
  UNLIKE : ∃ t, mg "UNLIKE" = some (.str "unlike" t)
end W81
end
section
set_option Elab.async false
set_option linter.all false
set_option maxRecDepth 100000
set_option maxHeartbeats 4000000
namespace W81
open PySem PySem.Spec PyProof.Rows L2 DL
section
variable {P : Program} {w : World} {K : PySem.W.Frag} {mg : Str → Option Value} {base : Heap} {f : Addr} {fd : FuncData}
theorem sc_is_whole : FnScope ["thing"] ["thing"] (defScope s_is_whole) := ⟨rfl, rfl, rfl, by decide +kernel, rfl, by decide +kernel, by decide +kernel⟩
def r_is_whole : TDS := dRet (dAndV (dB oIsi (dCons (dVar 0) (dCons (dC (.ty "int")) dNil))) (dAndV (dNotV (dB oIsi (dCons (dVar 0) (dCons (dC (.ty "bool")) dNil)))) (dChain oLeA oLeA (dNeg (dC (.int 1000000000000))) (dVar 0) (dC (.int 1000000000000)))))
theorem c_is_whole {k : Nat} {sp : SpD} (g : Gs mg K) (F : FnP K "is_whole" s_is_whole f fd) (hg : mg "is_whole" = some (.ref f)) (len : ∀ ds G Q, sp ds G Q → ds.length = 1)
    (hr : ∀ ds G Q, sp ds G Q → r_is_whole { nx := fun _ G' => Q .non G', rt := Q } (startD ["thing"] ds) G) : Cal P w K mg base (k + 1) "is_whole" sp := by
  obtain ⟨tMOST, gMOST⟩ := g.MOST
  refine fn_D F sc_is_whole hg (fun _ _ _ _ _ _ us hl => match us, hl with | [_], _ => rfl) len (fun cdv A outer s H hroom => ?_) hr
  have c : Kc (XF P w K mg base ["thing"] "is_whole" (defScope s_is_whole) f cdv A outer s H) k := ⟨rfl, sc_is_whole.nd, hroom⟩
  exact dss_one (ds_ret (de_and (de_isi c g.isinstance (da_cons (de_var (i := 0)) (da_cons (de_ty rfl g.int PyProof.Rows.boot_int) da_nil))) (de_and (de_not (de_isi c g.isinstance (da_cons (de_var (i := 0)) (da_cons (de_ty rfl g.bool PyProof.Rows.boot_bool) da_nil)))) (de_one (de_c2 (ok_le c) (ok_le c) (de_neg (de_gint rfl gMOST)) (de_var (i := 0)) (de_gint rfl gMOST))))))
theorem sc_is_between : FnScope ["thing", "least", "most"] ["thing", "least", "most"] (defScope s_is_between) := ⟨rfl, rfl, rfl, by decide +kernel, rfl, by decide +kernel, by decide +kernel⟩
def r_is_between (sp_is_whole : SpD) : TDS := dRet (dAndV (dCall sp_is_whole (dCons (dVar 0) dNil)) (dChain oLeA oLeA (dVar 1) (dVar 0) (dVar 2)))
theorem c_is_between {k : Nat} {sp_is_whole : SpD} {sp : SpD} (g : Gs mg K) (F : FnP K "is_between" s_is_between f fd) (hg : mg "is_between" = some (.ref f)) (cis_whole : Cal P w K mg base k "is_whole" sp_is_whole) (len : ∀ ds G Q, sp ds G Q → ds.length = 3)
    (hr : ∀ ds G Q, sp ds G Q → r_is_between sp_is_whole { nx := fun _ G' => Q .non G', rt := Q } (startD ["thing", "least", "most"] ds) G) : Cal P w K mg base (k + 1) "is_between" sp := by
  refine fn_D F sc_is_between hg (fun _ _ _ _ _ _ us hl => match us, hl with | [_, _, _], _ => rfl) len (fun cdv A outer s H hroom => ?_) hr
  have c : Kc (XF P w K mg base ["thing", "least", "most"] "is_between" (defScope s_is_between) f cdv A outer s H) k := ⟨rfl, sc_is_between.nd, hroom⟩
  exact dss_one (ds_ret (de_and (de_call cis_whole c.room rfl (da_cons (de_var (i := 0)) da_nil)) (de_one (de_c2 (ok_le c) (ok_le c) (de_var (i := 1)) (de_var (i := 0)) (de_var (i := 2))))))
theorem sc_is_name : FnScope ["thing", "sign"] ["thing"] (defScope s_is_name) := ⟨rfl, rfl, rfl, by decide +kernel, rfl, by decide +kernel, by decide +kernel⟩
def r_is_name : TDS := dSeq (dIfS (dOrT (dNotT (dTest (dB oIsi (dCons (dVar 0) (dCons (dC (.ty "str")) dNil))))) (dNotT (dTest (dChain oLeA oLeA (dC (.int 1)) (dB oLen (dCons (dVar 0) dNil)) (dC (.int 8)))))) (dRet (dC (.bl false))) dNext) (dRet (dAndV (dBin oInA (dBin oIxA (dVar 0) (dC (.int 0))) (dC (.str "abcdefghijklmnopqrstuvwxyz"))) (dB oAll (dCons (dLc (diSeq (dVar 0)) (dgName 1) dYes (dBin oInA (dVar 1) (dC (.str "abcdefghijklmnopqrstuvwxyz0123456789"))) [1]) dNil))))
theorem c_is_name {k : Nat} {sp : SpD} (g : Gs mg K) (F : FnP K "is_name" s_is_name f fd) (hg : mg "is_name" = some (.ref f)) (len : ∀ ds G Q, sp ds G Q → ds.length = 1)
    (hr : ∀ ds G Q, sp ds G Q → r_is_name { nx := fun _ G' => Q .non G', rt := Q } (startD ["thing", "sign"] ds) G) : Cal P w K mg base (k + 1) "is_name" sp := by
  obtain ⟨tLETTERS, gLETTERS⟩ := g.LETTERS
  obtain ⟨tLONGEST_NAME, gLONGEST_NAME⟩ := g.LONGEST_NAME
  obtain ⟨tSIGNS, gSIGNS⟩ := g.SIGNS
  refine fn_D F sc_is_name hg (fun _ _ _ _ _ _ us hl => match us, hl with | [_], _ => rfl) len (fun cdv A outer s H hroom => ?_) hr
  have c : Kc (XF P w K mg base ["thing", "sign"] "is_name" (defScope s_is_name) f cdv A outer s H) k := ⟨rfl, sc_is_name.nd, hroom⟩
  exact dss_cons (ds_if (dw_t (dw_or (dt_not (dt_val (de_isi c g.isinstance (da_cons (de_var (i := 0)) (da_cons (de_ty rfl g.str PyProof.Rows.boot_str) da_nil))))) (dw_or1 (dt_not (dt_c2 (ok_le c) (ok_le c) de_int (de_len c g.len (da_cons (de_var (i := 0)) da_nil)) (de_gint rfl gLONGEST_NAME)))))) (dss_one (ds_ret de_bl)) dss_nil) (dss_one (ds_ret (de_and (de_c (ok_in c) (de_ixA c (de_var (i := 0)) de_int) (de_gstr rfl gLETTERS)) (de_one (de_all c g.all (da_cons (de_lc (own := [("sign", 1)]) c.calm c.nd (di_seq (de_var (i := 0))) (blkOk_by (by rfl)) (fun _ _ _ _ _ => dv_name (i := 1) (by simp) c.b.nd rfl (by first | exact Or.inl rfl | exact Or.inr rfl)) (fun _ _ _ _ _ => dts_nil) (fun _ _ _ _ _ => de_c (ok_in c.b) (de_var (i := 1)) (de_gstr rfl gSIGNS))) da_nil))))))
theorem sc_is_tuple_of : FnScope ["thing", "look", "part"] ["thing", "look"] (defScope s_is_tuple_of) := ⟨rfl, rfl, rfl, by decide +kernel, rfl, by decide +kernel, by decide +kernel⟩
def r_is_tuple_of (S : Str → SpD → Prop) : TDS := dRet (dAndV (dB oIsi (dCons (dVar 0) (dCons (dC (.ty "tuple")) dNil))) (dB oAll (dCons (dLc (diSeq (dVar 0)) (dgName 2) dYes (dCallL 1 S (dCons (dVar 2) dNil)) [2]) dNil)))
theorem c_is_tuple_of {k : Nat} {S : Str → SpD → Prop} (hS : ∀ x sp, S x sp → Cal P w K mg base k x sp) {sp : SpD} (g : Gs mg K) (F : FnP K "is_tuple_of" s_is_tuple_of f fd) (hg : mg "is_tuple_of" = some (.ref f)) (len : ∀ ds G Q, sp ds G Q → ds.length = 2)
    (hr : ∀ ds G Q, sp ds G Q → r_is_tuple_of S { nx := fun _ G' => Q .non G', rt := Q } (startD ["thing", "look", "part"] ds) G) : Cal P w K mg base (k + 1) "is_tuple_of" sp := by
  refine fn_D F sc_is_tuple_of hg (fun _ _ _ _ _ _ us hl => match us, hl with | [_, _], _ => rfl) len (fun cdv A outer s H hroom => ?_) hr
  have c : Kc (XF P w K mg base ["thing", "look", "part"] "is_tuple_of" (defScope s_is_tuple_of) f cdv A outer s H) k := ⟨rfl, sc_is_tuple_of.nd, hroom⟩
  exact dss_one (ds_ret (de_and (de_isi c g.isinstance (da_cons (de_var (i := 0)) (da_cons (de_ty rfl g.tuple PyProof.Rows.boot_tuple) da_nil))) (de_one (de_all c g.all (da_cons (de_lc (own := [("part", 2)]) c.calm c.nd (di_seq (de_var (i := 0))) (blkOk_by (by rfl)) (fun _ _ _ _ _ => dv_name (i := 2) (by simp) c.b.nd rfl (by first | exact Or.inl rfl | exact Or.inr rfl)) (fun _ _ _ _ _ => dts_nil) (fun _ _ _ _ _ => de_callL (i := 1) hS c.b.room rfl (by first | exact Or.inl rfl | exact Or.inr (Or.inl rfl) | exact Or.inr (Or.inr rfl)) (da_cons (de_var (i := 2)) da_nil))) da_nil)))))
theorem sc_is_column : FnScope ["thing"] ["thing"] (defScope s_is_column) := ⟨rfl, rfl, rfl, by decide +kernel, rfl, by decide +kernel, by decide +kernel⟩
def r_is_column (sp_is_tuple_of : SpD) : TDS := dRet (dAndV (dB oIsi (dCons (dVar 0) (dCons (dC (.ty "tuple")) dNil))) (dAndV (dChain oLt oLeA (dC (.int 0)) (dB oLen (dCons (dVar 0) dNil)) (dC (.int 400))) (dCall sp_is_tuple_of (dCons (dVar 0) (dCons (dC (.gl "is_name")) dNil)))))
theorem c_is_column {k : Nat} {sp_is_tuple_of : SpD} {sp : SpD} (g : Gs mg K) (F : FnP K "is_column" s_is_column f fd) (hg : mg "is_column" = some (.ref f)) (cis_tuple_of : Cal P w K mg base k "is_tuple_of" sp_is_tuple_of) {ais_name : Addr} (mis_name : mg "is_name" = some (.ref ais_name)) (len : ∀ ds G Q, sp ds G Q → ds.length = 1)
    (hr : ∀ ds G Q, sp ds G Q → r_is_column sp_is_tuple_of { nx := fun _ G' => Q .non G', rt := Q } (startD ["thing"] ds) G) : Cal P w K mg base (k + 1) "is_column" sp := by
  obtain ⟨tMOST_KINDS, gMOST_KINDS⟩ := g.MOST_KINDS
  refine fn_D F sc_is_column hg (fun _ _ _ _ _ _ us hl => match us, hl with | [_], _ => rfl) len (fun cdv A outer s H hroom => ?_) hr
  have c : Kc (XF P w K mg base ["thing"] "is_column" (defScope s_is_column) f cdv A outer s H) k := ⟨rfl, sc_is_column.nd, hroom⟩
  exact dss_one (ds_ret (de_and (de_isi c g.isinstance (da_cons (de_var (i := 0)) (da_cons (de_ty rfl g.tuple PyProof.Rows.boot_tuple) da_nil))) (de_and (de_c2 (ok_lt c) (ok_le c) de_int (de_len c g.len (da_cons (de_var (i := 0)) da_nil)) (de_gint rfl gMOST_KINDS)) (de_one (de_call cis_tuple_of c.room rfl (da_cons (de_var (i := 0)) (da_cons (de_gl rfl mis_name) da_nil)))))))
theorem sc_is_yard_value : FnScope ["thing", "one", "other"] ["thing"] (defScope s_is_yard_value) := ⟨rfl, rfl, rfl, by decide +kernel, rfl, by decide +kernel, by decide +kernel⟩
def r_is_yard_value (sp_is_tuple_of : SpD) : TDS := dSeq (dIfS (dOrT (dNotT (dTest (dB oIsi (dCons (dVar 0) (dCons (dC (.ty "tuple")) dNil))))) (dOrT (dTest (dBin oGt (dB oLen (dCons (dVar 0) dNil)) (dC (.int 400)))) (dNotT (dTest (dCall sp_is_tuple_of (dCons (dVar 0) (dCons (dC (.gl "is_column")) dNil))))))) (dRet (dC (.bl false))) dNext) (dRet (dB oAll (dCons (dLc (dZip (dCons (dVar 0) (dCons (dSl (dVar 0) (doSome (dC (.int 1))) doNone) dNil))) (dgTup 2 (dgCons (dgName 1) (dgCons (dgName 2) dgNil))) dYes (dBin oLeA (dVar 1) (dVar 2)) [1, 2]) dNil)))
theorem c_is_yard_value {k : Nat} {sp_is_tuple_of : SpD} {sp : SpD} (g : Gs mg K) (F : FnP K "is_yard_value" s_is_yard_value f fd) (hg : mg "is_yard_value" = some (.ref f)) (cis_tuple_of : Cal P w K mg base k "is_tuple_of" sp_is_tuple_of) {ais_column : Addr} (mis_column : mg "is_column" = some (.ref ais_column)) (len : ∀ ds G Q, sp ds G Q → ds.length = 1)
    (hr : ∀ ds G Q, sp ds G Q → r_is_yard_value sp_is_tuple_of { nx := fun _ G' => Q .non G', rt := Q } (startD ["thing", "one", "other"] ds) G) : Cal P w K mg base (k + 1) "is_yard_value" sp := by
  obtain ⟨tMOST_KINDS, gMOST_KINDS⟩ := g.MOST_KINDS
  refine fn_D F sc_is_yard_value hg (fun _ _ _ _ _ _ us hl => match us, hl with | [_], _ => rfl) len (fun cdv A outer s H hroom => ?_) hr
  have c : Kc (XF P w K mg base ["thing", "one", "other"] "is_yard_value" (defScope s_is_yard_value) f cdv A outer s H) k := ⟨rfl, sc_is_yard_value.nd, hroom⟩
  exact dss_cons (ds_if (dw_t (dw_or (dt_not (dt_val (de_isi c g.isinstance (da_cons (de_var (i := 0)) (da_cons (de_ty rfl g.tuple PyProof.Rows.boot_tuple) da_nil))))) (dw_or (dt_c (ok_gt c) (de_len c g.len (da_cons (de_var (i := 0)) da_nil)) (de_gint rfl gMOST_KINDS)) (dw_or1 (dt_not (dt_val (de_call cis_tuple_of c.room rfl (da_cons (de_var (i := 0)) (da_cons (de_gl rfl mis_column) da_nil))))))))) (dss_one (ds_ret de_bl)) dss_nil) (dss_one (ds_ret (de_all c g.all (da_cons (de_lc (own := [("one", 1), ("other", 2)]) c.calm c.nd (di_zip rfl g.zip (da_cons (de_var (i := 0)) (da_cons (de_slice (de_var (i := 0)) (do_some de_int) do_none) da_nil))) (blkOk_by (by rfl)) (fun _ _ _ _ _ => dv_tup (n := 2) c.b.calm (dvs_cons (dv_name (i := 1) (by simp) c.b.nd rfl (by first | exact Or.inl rfl | exact Or.inr rfl)) (dvs_cons (dv_name (i := 2) (by simp) c.b.nd rfl (by first | exact Or.inl rfl | exact Or.inr rfl)) dvs_nil))) (fun _ _ _ _ _ => dts_nil) (fun _ _ _ _ _ => de_c (ok_le c.b) (de_var (i := 1)) (de_var (i := 2)))) da_nil))))
theorem sc_need_yard : FnScope ["yard"] ["yard"] (defScope s_need_yard) := ⟨rfl, rfl, rfl, by decide +kernel, rfl, by decide +kernel, by decide +kernel⟩
def r_need_yard (sp_is_yard_value : SpD) (C_BadYard : Addr) : TDS := dIfS (dNotT (dTest (dCall sp_is_yard_value (dCons (dVar 0) dNil)))) (dRaise C_BadYard (dVar 0)) dNext
theorem c_need_yard {k : Nat} {D0 fI : Addr} {sp_is_yard_value : SpD} {C_BadYard : Addr} {sp : SpX} (g : Gs mg K) (F : FnP K "need_yard" s_need_yard f fd) (hg : mg "need_yard" = some (.ref f)) (cis_yard_value : Cal P w K mg base (k + 1) "is_yard_value" sp_is_yard_value) (xBadYard : YInit P K D0 fI ∧ YC K D0 fI C_BadYard) (mBadYard : mg "BadYard" = some (.ref C_BadYard)) (len : ∀ ds G Q QX, sp ds G Q QX → ds.length = 1)
    (hr : ∀ ds G Q QX, sp ds G Q QX → r_need_yard sp_is_yard_value C_BadYard { nx := fun _ G' => Q .non G', rt := Q, ex := QX } (startD ["yard"] ds) G) : CalX P w K mg base (k + 2) "need_yard" sp := by
  refine fn_DX F sc_need_yard hg (fun _ _ _ _ _ _ us hl => match us, hl with | [_], _ => rfl) len (fun cdv A outer s H E hroom => ?_) hr
  have c : Kc (XG P w K mg base ["yard"] "need_yard" (defScope s_need_yard) f cdv A outer s H E) (k + 1) := ⟨rfl, sc_need_yard.nd, hroom⟩
  exact dss_one (ds_if (dt_not (dt_val (de_call cis_yard_value c.room rfl (da_cons (de_var (i := 0)) da_nil)))) (dss_one (ds_raise c.calm xBadYard.1 xBadYard.2 g.super c.room rfl mBadYard (de_var (i := 0)))) dss_nil)
theorem sc_laid : FnScope ["columns", "column"] ["columns"] (defScope s_laid) := ⟨rfl, rfl, rfl, by decide +kernel, rfl, by decide +kernel, by decide +kernel⟩
def r_laid : TDS := dRet (dB oTupOf (dCons (dB oSortedA (dCons (dLc (diSeq (dVar 0)) (dgName 1) (dTest (dBin oGt (dB oLen (dCons (dVar 1) dNil)) (dC (.int 0)))) (dB oTupOf (dCons (dVar 1) dNil)) [1]) dNil)) dNil))
theorem c_laid {k : Nat} {sp : SpD} (g : Gs mg K) (F : FnP K "laid" s_laid f fd) (hg : mg "laid" = some (.ref f)) (len : ∀ ds G Q, sp ds G Q → ds.length = 1)
    (hr : ∀ ds G Q, sp ds G Q → r_laid { nx := fun _ G' => Q .non G', rt := Q } (startD ["columns", "column"] ds) G) : Cal P w K mg base (k + 1) "laid" sp := by
  refine fn_D F sc_laid hg (fun _ _ _ _ _ _ us hl => match us, hl with | [_], _ => rfl) len (fun cdv A outer s H hroom => ?_) hr
  have c : Kc (XF P w K mg base ["columns", "column"] "laid" (defScope s_laid) f cdv A outer s H) k := ⟨rfl, sc_laid.nd, hroom⟩
  exact dss_one (ds_ret (de_tuple c g.tuple (da_cons (de_sorted c g.sorted (da_cons (de_lc (own := [("column", 1)]) c.calm c.nd (di_seq (de_var (i := 0))) (blkOk_by (by rfl)) (fun _ _ _ _ _ => dv_name (i := 1) (by simp) c.b.nd rfl (by first | exact Or.inl rfl | exact Or.inr rfl)) (fun _ _ _ _ _ => dts_one (dt_c (ok_gt c.b) (de_len c.b g.len (da_cons (de_var (i := 1)) da_nil)) de_int)) (fun _ _ _ _ _ => de_tuple c.b g.tuple (da_cons (de_var (i := 1)) da_nil))) da_nil)) da_nil)))
theorem sc_depth_of : FnScope ["column", "kind", "digs", "one"] ["column", "kind"] (defScope s_depth_of) := ⟨rfl, rfl, rfl, by decide +kernel, rfl, by decide +kernel, by decide +kernel⟩
def r_depth_of : TDS := dSeq (dFor (dEnum (dCons (dOr (dRevL (dVar 0)) (dRev (dVar 0))) dNil)) (dgTup 2 (dgCons (dgName 2) (dgCons (dgName 3) dgNil))) (dIfS (dTest (dBin oEqA (dVar 3) (dVar 1))) (dRet (dVar 2)) dNext)) (dRet (dNeg (dC (.int 1))))
theorem c_depth_of {k : Nat} {sp : SpD} (g : Gs mg K) (F : FnP K "depth_of" s_depth_of f fd) (hg : mg "depth_of" = some (.ref f)) (len : ∀ ds G Q, sp ds G Q → ds.length = 2)
    (hr : ∀ ds G Q, sp ds G Q → r_depth_of { nx := fun _ G' => Q .non G', rt := Q } (startD ["column", "kind", "digs", "one"] ds) G) : Cal P w K mg base (k + 1) "depth_of" sp := by
  refine fn_D F sc_depth_of hg (fun _ _ _ _ _ _ us hl => match us, hl with | [_, _], _ => rfl) len (fun cdv A outer s H hroom => ?_) hr
  have c : Kc (XF P w K mg base ["column", "kind", "digs", "one"] "depth_of" (defScope s_depth_of) f cdv A outer s H) k := ⟨rfl, sc_depth_of.nd, hroom⟩
  have hp : PassesOwn (model P w) (XF P w K mg base ["column", "kind", "digs", "one"] "depth_of" (defScope s_depth_of) f cdv A outer s H).A (XF P w K mg base ["column", "kind", "digs", "one"] "depth_of" (defScope s_depth_of) f cdv A outer s H).env (XF P w K mg base ["column", "kind", "digs", "one"] "depth_of" (defScope s_depth_of) f cdv A outer s H).xe := PassesOwn.never
  exact dss_cons (ds_for hp c.calm (di_enum rfl g.enumerate (da_cons (de_two (de_revL (de_var (i := 0))) (de_revT (de_var (i := 0)))) da_nil)) (dg_tup (n := 2) c.calm (dgs_cons (dg_name (i := 2) c.nd rfl (by first | exact Or.inl rfl | exact Or.inr rfl)) (dgs_cons (dg_name (i := 3) c.nd rfl (by first | exact Or.inl rfl | exact Or.inr rfl)) dgs_nil))) (dss_one (ds_if (dt_c (ok_eq c) (de_var (i := 3)) (de_var (i := 1))) (dss_one (ds_ret (de_var (i := 2)))) dss_nil))) (dss_one (ds_ret (de_neg de_int)))
theorem sc_is_single : FnScope ["column", "kind"] ["column"] (defScope s_is_single) := ⟨rfl, rfl, rfl, by decide +kernel, rfl, by decide +kernel, by decide +kernel⟩
def r_is_single : TDS := dRet (dB oAll (dCons (dLc (diSeq (dVar 0)) (dgName 1) dYes (dBin oEqA (dVar 1) (dBin oIxA (dVar 0) (dC (.int 0)))) [1]) dNil))
theorem c_is_single {k : Nat} {sp : SpD} (g : Gs mg K) (F : FnP K "is_single" s_is_single f fd) (hg : mg "is_single" = some (.ref f)) (len : ∀ ds G Q, sp ds G Q → ds.length = 1)
    (hr : ∀ ds G Q, sp ds G Q → r_is_single { nx := fun _ G' => Q .non G', rt := Q } (startD ["column", "kind"] ds) G) : Cal P w K mg base (k + 1) "is_single" sp := by
  refine fn_D F sc_is_single hg (fun _ _ _ _ _ _ us hl => match us, hl with | [_], _ => rfl) len (fun cdv A outer s H hroom => ?_) hr
  have c : Kc (XF P w K mg base ["column", "kind"] "is_single" (defScope s_is_single) f cdv A outer s H) k := ⟨rfl, sc_is_single.nd, hroom⟩
  exact dss_one (ds_ret (de_all c g.all (da_cons (de_lc (own := [("kind", 1)]) c.calm c.nd (di_seq (de_var (i := 0))) (blkOk_by (by rfl)) (fun _ _ _ _ _ => dv_name (i := 1) (by simp) c.b.nd rfl (by first | exact Or.inl rfl | exact Or.inr rfl)) (fun _ _ _ _ _ => dts_nil) (fun _ _ _ _ _ => de_c (ok_eq c.b) (de_var (i := 1)) (de_ixA c.b (de_var (i := 0)) de_int))) da_nil)))
theorem sc_pulled : FnScope ["yard", "kind", "depths", "known", "best", "chosen", "column", "place", "rest", "digs", "rank"] ["yard", "kind"] (defScope s_pulled) := ⟨rfl, rfl, rfl, by decide +kernel, rfl, by decide +kernel, by decide +kernel⟩
def r_pulled (sp_laid : SpD) (sp_is_single : SpD) (sp_depth_of : SpD) : TDS := dSeq (dAsg (dLc (diSeq (dVar 0)) (dgName 6) dYes (dCall sp_depth_of (dCons (dVar 6) (dCons (dVar 1) dNil))) [6]) (dgName 2)) (dSeq (dAsg (dLc (diSeq (dVar 2)) (dgName 9) (dTest (dBin oGe (dVar 9) (dC (.int 0)))) (dVar 9) [9]) (dgName 3)) (dSeq (dIfS (dTest (dBin oEqA (dVar 3) (dLst dNil))) (dRet (dTup (dCons (dNeg (dC (.int 1))) (dCons (dVar 0) dNil)))) dNext) (dSeq (dAsg (dB oMin (dCons (dVar 3) dNil)) (dgName 4)) (dSeq (dAsg (dTup dNil) (dgName 5)) (dSeq (dFor (dZipY (dCons (dVar 0) (dCons (dVar 2) dNil))) (dgTup 2 (dgCons (dgName 6) (dgCons (dgName 9) dgNil))) (dIfS (dTest (dBin oEqA (dVar 9) (dVar 4))) (dSeq (dAsg (dTup (dCons (dNotV (dCall sp_is_single (dCons (dVar 6) dNil))) (dCons (dB oLen (dCons (dVar 6) dNil)) (dCons (dVar 6) dNil)))) (dgName 10)) (dIfS (dOrT (dTest (dBin oEqA (dVar 5) (dTup dNil))) (dTest (dBin oLt (dVar 10) (dVar 5)))) (dAsg (dVar 10) (dgName 5)) dNext)) dNext)) (dSeq (dAsg (dBin oIxA (dVar 5) (dC (.int 2))) (dgName 6)) (dSeq (dAsg (dBin oSub (dBin oSub (dB oLen (dCons (dVar 6) dNil)) (dC (.int 1))) (dVar 4)) (dgName 7)) (dSeq (dAsg (dB oListA (dCons (dVar 0) dNil)) (dgName 8)) (dSeq (dDrop (dM (dVar 8) (dCons (dVar 6) dNil) oRemove)) (dSeq (dDrop (dM (dVar 8) (dCons (dBin oAdd (dSl (dVar 6) doNone (doSome (dVar 7))) (dSl (dVar 6) (doSome (dBin oAdd (dVar 7) (dC (.int 1)))) doNone)) dNil) oAppend)) (dRet (dTup (dCons (dVar 4) (dCons (dCall sp_laid (dCons (dVar 8) dNil)) dNil))))))))))))))
theorem c_pulled {k : Nat} {sp_laid : SpD} {sp_is_single : SpD} {sp_depth_of : SpD} {sp : SpD} (g : Gs mg K) (F : FnP K "pulled" s_pulled f fd) (hg : mg "pulled" = some (.ref f)) (claid : Cal P w K mg base k "laid" sp_laid) (cis_single : Cal P w K mg base k "is_single" sp_is_single) (cdepth_of : Cal P w K mg base k "depth_of" sp_depth_of) (len : ∀ ds G Q, sp ds G Q → ds.length = 2)
    (hr : ∀ ds G Q, sp ds G Q → r_pulled sp_laid sp_is_single sp_depth_of { nx := fun _ G' => Q .non G', rt := Q } (startD ["yard", "kind", "depths", "known", "best", "chosen", "column", "place", "rest", "digs", "rank"] ds) G) : Cal P w K mg base (k + 1) "pulled" sp := by
  refine fn_D F sc_pulled hg (fun _ _ _ _ _ _ us hl => match us, hl with | [_, _], _ => rfl) len (fun cdv A outer s H hroom => ?_) hr
  have c : Kc (XF P w K mg base ["yard", "kind", "depths", "known", "best", "chosen", "column", "place", "rest", "digs", "rank"] "pulled" (defScope s_pulled) f cdv A outer s H) k := ⟨rfl, sc_pulled.nd, hroom⟩
  have hp : PassesOwn (model P w) (XF P w K mg base ["yard", "kind", "depths", "known", "best", "chosen", "column", "place", "rest", "digs", "rank"] "pulled" (defScope s_pulled) f cdv A outer s H).A (XF P w K mg base ["yard", "kind", "depths", "known", "best", "chosen", "column", "place", "rest", "digs", "rank"] "pulled" (defScope s_pulled) f cdv A outer s H).env (XF P w K mg base ["yard", "kind", "depths", "known", "best", "chosen", "column", "place", "rest", "digs", "rank"] "pulled" (defScope s_pulled) f cdv A outer s H).xe := PassesOwn.never
  exact dss_cons (ds_setLc (i := 2) (own := [("column", 6)]) c.calm c.nd rfl rfl rfl (di_seq (de_var (i := 0))) (blkOk_by (by rfl)) (fun _ _ _ _ _ => dv_name (i := 6) (by simp) c.b.nd rfl (by first | exact Or.inl rfl | exact Or.inr rfl)) (fun _ _ _ _ _ => dts_nil) (fun _ _ _ _ _ => de_call cdepth_of c.b.room rfl (da_cons (de_var (i := 6)) (da_cons (de_var (i := 1)) da_nil)))) (dss_cons (ds_setLc (i := 3) (own := [("digs", 9)]) c.calm c.nd rfl rfl rfl (di_seq (de_var (i := 2))) (blkOk_by (by rfl)) (fun _ _ _ _ _ => dv_name (i := 9) (by simp) c.b.nd rfl (by first | exact Or.inl rfl | exact Or.inr rfl)) (fun _ _ _ _ _ => dts_one (dt_c (ok_ge c.b) (de_var (i := 9)) de_int)) (fun _ _ _ _ _ => de_var (i := 9))) (dss_cons (ds_if (dt_c (ok_eq c) (de_var (i := 3)) (de_lst da_nil)) (dss_one (ds_ret (de_tup (da_cons (de_neg de_int) (da_cons (de_var (i := 0)) da_nil))))) dss_nil) (dss_cons (ds_set (i := 4) c.nd rfl (by first | exact Or.inl rfl | exact Or.inr rfl) (de_min c g.min (da_cons (de_var (i := 3)) da_nil))) (dss_cons (ds_set (i := 5) c.nd rfl (by first | exact Or.inl rfl | exact Or.inr rfl) (de_tup da_nil)) (dss_cons (ds_for hp c.calm (di_zipY rfl g.zip (da_cons (de_var (i := 0)) (da_cons (de_var (i := 2)) da_nil))) (dg_tup (n := 2) c.calm (dgs_cons (dg_name (i := 6) c.nd rfl (by first | exact Or.inl rfl | exact Or.inr rfl)) (dgs_cons (dg_name (i := 9) c.nd rfl (by first | exact Or.inl rfl | exact Or.inr rfl)) dgs_nil))) (dss_one (ds_if (dt_c (ok_eq c) (de_var (i := 9)) (de_var (i := 4))) (dss_cons (ds_set (i := 10) c.nd rfl (by first | exact Or.inl rfl | exact Or.inr rfl) (de_tup (da_cons (de_not (de_call cis_single c.room rfl (da_cons (de_var (i := 6)) da_nil))) (da_cons (de_len c g.len (da_cons (de_var (i := 6)) da_nil)) (da_cons (de_var (i := 6)) da_nil))))) (dss_one (ds_if (dw_t (dw_or (dt_c (ok_eq c) (de_var (i := 5)) (de_tup da_nil)) (dw_or1 (dt_c (ok_lt c) (de_var (i := 10)) (de_var (i := 5)))))) (dss_one (ds_set (i := 5) c.nd rfl (by first | exact Or.inl rfl | exact Or.inr rfl) (de_var (i := 10)))) dss_nil))) dss_nil))) (dss_cons (ds_set (i := 6) c.nd rfl (by first | exact Or.inl rfl | exact Or.inr rfl) (de_ixA c (de_var (i := 5)) de_int)) (dss_cons (ds_set (i := 7) c.nd rfl (by first | exact Or.inl rfl | exact Or.inr rfl) (de_sub (de_sub (de_len c g.len (da_cons (de_var (i := 6)) da_nil)) de_int) (de_var (i := 4)))) (dss_cons (ds_set (i := 8) c.nd rfl (by first | exact Or.inl rfl | exact Or.inr rfl) (de_list c g.list (da_cons (de_var (i := 0)) da_nil))) (dss_cons (ds_expr (de_remove c.u (de_var (i := 8)) (de_var (i := 6)))) (dss_cons (ds_expr (de_append (de_var (i := 8)) (de_add (de_slice (de_var (i := 6)) do_none (do_some (de_var (i := 7)))) (de_slice (de_var (i := 6)) (do_some (de_add (de_var (i := 7)) de_int)) do_none)))) (dss_one (ds_ret (de_tup (da_cons (de_var (i := 4)) (da_cons (de_call claid c.room rfl (da_cons (de_var (i := 8)) da_nil)) da_nil)))))))))))))))
theorem sc_set_out_in : FnScope ["yard", "found", "column", "kind"] ["yard"] (defScope s_set_out_in) := ⟨rfl, rfl, rfl, by decide +kernel, rfl, by decide +kernel, by decide +kernel⟩
def r_set_out_in (sp_is_single : SpD) : TDS := dSeq (dAsg (dLst dNil) (dgName 1)) (dSeq (dFor (diSeq (dVar 0)) (dgName 2) (dIfS (dTest (dCall sp_is_single (dCons (dVar 2) dNil))) (dDrop (dM (dVar 1) (dCons (dLc (diSeq (dVar 2)) (dgName 3) dYes (dTup (dCons (dVar 3) dNil)) [3]) dNil) oExtend)) (dDrop (dM (dVar 1) (dCons (dVar 2) dNil) oAppend)))) (dRet (dB oTupOf (dCons (dB oSortedA (dCons (dVar 1) dNil)) dNil))))
theorem c_set_out_in {k : Nat} {sp_is_single : SpD} {sp : SpD} (g : Gs mg K) (F : FnP K "set_out_in" s_set_out_in f fd) (hg : mg "set_out_in" = some (.ref f)) (cis_single : Cal P w K mg base k "is_single" sp_is_single) (len : ∀ ds G Q, sp ds G Q → ds.length = 1)
    (hr : ∀ ds G Q, sp ds G Q → r_set_out_in sp_is_single { nx := fun _ G' => Q .non G', rt := Q } (startD ["yard", "found", "column", "kind"] ds) G) : Cal P w K mg base (k + 1) "set_out_in" sp := by
  refine fn_D F sc_set_out_in hg (fun _ _ _ _ _ _ us hl => match us, hl with | [_], _ => rfl) len (fun cdv A outer s H hroom => ?_) hr
  have c : Kc (XF P w K mg base ["yard", "found", "column", "kind"] "set_out_in" (defScope s_set_out_in) f cdv A outer s H) k := ⟨rfl, sc_set_out_in.nd, hroom⟩
  have hp : PassesOwn (model P w) (XF P w K mg base ["yard", "found", "column", "kind"] "set_out_in" (defScope s_set_out_in) f cdv A outer s H).A (XF P w K mg base ["yard", "found", "column", "kind"] "set_out_in" (defScope s_set_out_in) f cdv A outer s H).env (XF P w K mg base ["yard", "found", "column", "kind"] "set_out_in" (defScope s_set_out_in) f cdv A outer s H).xe := PassesOwn.never
  exact dss_cons (ds_set (i := 1) c.nd rfl (by first | exact Or.inl rfl | exact Or.inr rfl) (de_lst da_nil)) (dss_cons (ds_for hp c.calm (di_seq (de_var (i := 0))) (dg_name (i := 2) c.nd rfl (by first | exact Or.inl rfl | exact Or.inr rfl)) (dss_one (ds_if (dt_val (de_call cis_single c.room rfl (da_cons (de_var (i := 2)) da_nil))) (dss_one (ds_expr (de_extend (de_var (i := 1)) (de_lc (own := [("kind", 3)]) c.calm c.nd (di_seq (de_var (i := 2))) (blkOk_by (by rfl)) (fun _ _ _ _ _ => dv_name (i := 3) (by simp) c.b.nd rfl (by first | exact Or.inl rfl | exact Or.inr rfl)) (fun _ _ _ _ _ => dts_nil) (fun _ _ _ _ _ => de_tup (da_cons (de_var (i := 3)) da_nil)))))) (dss_one (ds_expr (de_append (de_var (i := 1)) (de_var (i := 2)))))))) (dss_one (ds_ret (de_tuple c g.tuple (da_cons (de_sorted c g.sorted (da_cons (de_var (i := 1)) da_nil)) da_nil)))))
theorem sc_kinds_in : FnScope ["yard", "column", "kind"] ["yard"] (defScope s_kinds_in) := ⟨rfl, rfl, rfl, by decide +kernel, rfl, by decide +kernel, by decide +kernel⟩
def r_kinds_in : TDS := dRet (dB oSortedA (dCons (dLc2 (diSeq (dVar 0)) (dgName 1) dYes (diSeq (dVar 1)) (dgName 2) dYes (dVar 2) [1, 2] [2]) dNil))
theorem c_kinds_in {k : Nat} {sp : SpD} (g : Gs mg K) (F : FnP K "kinds_in" s_kinds_in f fd) (hg : mg "kinds_in" = some (.ref f)) (len : ∀ ds G Q, sp ds G Q → ds.length = 1)
    (hr : ∀ ds G Q, sp ds G Q → r_kinds_in { nx := fun _ G' => Q .non G', rt := Q } (startD ["yard", "column", "kind"] ds) G) : Cal P w K mg base (k + 1) "kinds_in" sp := by
  refine fn_D F sc_kinds_in hg (fun _ _ _ _ _ _ us hl => match us, hl with | [_], _ => rfl) len (fun cdv A outer s H hroom => ?_) hr
  have c : Kc (XF P w K mg base ["yard", "column", "kind"] "kinds_in" (defScope s_kinds_in) f cdv A outer s H) k := ⟨rfl, sc_kinds_in.nd, hroom⟩
  exact dss_one (ds_ret (de_sorted c g.sorted (da_cons (de_lc2 (own := [("column", 1), ("kind", 2)]) (vs1 := [2]) c.calm c.nd (di_seq (de_var (i := 0))) (blkOk_by (by rfl)) (by simp) (fun _ _ _ _ _ => dv_name (i := 1) (by simp) c.b.nd rfl (by first | exact Or.inl rfl | exact Or.inr rfl)) (fun _ _ _ _ _ => dts_nil) (fun _ _ _ _ _ => di_seq (de_var (i := 1))) (fun _ _ _ _ _ => dv_name (i := 2) (by simp) c.b.nd rfl (by first | exact Or.inl rfl | exact Or.inr rfl)) (fun _ _ _ _ _ => dts_nil) (fun _ _ _ _ _ => de_var (i := 2))) da_nil)))
theorem sc_words_on : FnScope ["word", "left", "found", "at", "kind"] ["word", "left"] (defScope s_words_on) := ⟨rfl, rfl, rfl, by decide +kernel, rfl, by decide +kernel, by decide +kernel⟩
def r_words_on : TDS := dSeq (dAsg (dLst dNil) (dgName 2)) (dSeq (dFor (dEnum (dCons (dVar 1) dNil)) (dgTup 2 (dgCons (dgName 3) (dgCons (dgName 4) dgNil))) (dIfS (dOrT (dTest (dBin oEqA (dVar 3) (dC (.int 0)))) (dTest (dBin oNeA (dBin oIxA (dVar 1) (dBin oSub (dVar 3) (dC (.int 1)))) (dVar 4)))) (dDrop (dM (dVar 2) (dCons (dTup (dCons (dBin oAdd (dVar 0) (dTup (dCons (dVar 4) dNil))) (dCons (dBin oAdd (dSl (dVar 1) doNone (doSome (dVar 3))) (dSl (dVar 1) (doSome (dBin oAdd (dVar 3) (dC (.int 1)))) doNone)) dNil))) dNil) oAppend)) dNext)) (dRet (dVar 2)))
theorem c_words_on {k : Nat} {sp : SpD} (g : Gs mg K) (F : FnP K "words_on" s_words_on f fd) (hg : mg "words_on" = some (.ref f)) (len : ∀ ds G Q, sp ds G Q → ds.length = 2)
    (hr : ∀ ds G Q, sp ds G Q → r_words_on { nx := fun _ G' => Q .non G', rt := Q } (startD ["word", "left", "found", "at", "kind"] ds) G) : Cal P w K mg base (k + 1) "words_on" sp := by
  refine fn_D F sc_words_on hg (fun _ _ _ _ _ _ us hl => match us, hl with | [_, _], _ => rfl) len (fun cdv A outer s H hroom => ?_) hr
  have c : Kc (XF P w K mg base ["word", "left", "found", "at", "kind"] "words_on" (defScope s_words_on) f cdv A outer s H) k := ⟨rfl, sc_words_on.nd, hroom⟩
  have hp : PassesOwn (model P w) (XF P w K mg base ["word", "left", "found", "at", "kind"] "words_on" (defScope s_words_on) f cdv A outer s H).A (XF P w K mg base ["word", "left", "found", "at", "kind"] "words_on" (defScope s_words_on) f cdv A outer s H).env (XF P w K mg base ["word", "left", "found", "at", "kind"] "words_on" (defScope s_words_on) f cdv A outer s H).xe := PassesOwn.never
  exact dss_cons (ds_set (i := 2) c.nd rfl (by first | exact Or.inl rfl | exact Or.inr rfl) (de_lst da_nil)) (dss_cons (ds_for hp c.calm (di_enum rfl g.enumerate (da_cons (de_var (i := 1)) da_nil)) (dg_tup (n := 2) c.calm (dgs_cons (dg_name (i := 3) c.nd rfl (by first | exact Or.inl rfl | exact Or.inr rfl)) (dgs_cons (dg_name (i := 4) c.nd rfl (by first | exact Or.inl rfl | exact Or.inr rfl)) dgs_nil))) (dss_one (ds_if (dw_t (dw_or (dt_c (ok_eq c) (de_var (i := 3)) de_int) (dw_or1 (dt_c (ok_ne c) (de_ixA c (de_var (i := 1)) (de_sub (de_var (i := 3)) de_int)) (de_var (i := 4)))))) (dss_one (ds_expr (de_append (de_var (i := 2)) (de_tup (da_cons (de_add (de_var (i := 0)) (de_tup (da_cons (de_var (i := 4)) da_nil))) (da_cons (de_add (de_slice (de_var (i := 1)) do_none (do_some (de_var (i := 3)))) (de_slice (de_var (i := 1)) (do_some (de_add (de_var (i := 3)) de_int)) do_none)) da_nil)))))) dss_nil))) (dss_one (ds_ret (de_var (i := 2)))))
theorem sc_words_of : FnScope ["kinds", "found", "turn", "pair", "word", "left"] ["kinds"] (defScope s_words_of) := ⟨rfl, rfl, rfl, by decide +kernel, rfl, by decide +kernel, by decide +kernel⟩
def r_words_of (sp_words_on : SpD) : TDS := dSeq (dAsg (dLst (dCons (dTup (dCons (dTup dNil) (dCons (dB oTupOf (dCons (dVar 0) dNil)) dNil))) dNil)) (dgName 1)) (dSeq (dFor (dRange1 (dCons (dB oLen (dCons (dVar 0) dNil)) dNil)) (dgName 2) (dAsg (dLc2 (diSeq (dVar 1)) (dgTup 2 (dgCons (dgName 4) (dgCons (dgName 5) dgNil))) dYes (diSeq (dCall sp_words_on (dCons (dVar 4) (dCons (dVar 5) dNil)))) (dgName 3) dYes (dVar 3) [4, 5, 3] [3]) (dgName 1))) (dRet (dLc (diSeq (dVar 1)) (dgTup 2 (dgCons (dgName 4) (dgCons (dgName 5) dgNil))) dYes (dVar 4) [4, 5])))
theorem c_words_of {k : Nat} {sp_words_on : SpD} {sp : SpD} (g : Gs mg K) (F : FnP K "words_of" s_words_of f fd) (hg : mg "words_of" = some (.ref f)) (cwords_on : Cal P w K mg base k "words_on" sp_words_on) (len : ∀ ds G Q, sp ds G Q → ds.length = 1)
    (hr : ∀ ds G Q, sp ds G Q → r_words_of sp_words_on { nx := fun _ G' => Q .non G', rt := Q } (startD ["kinds", "found", "turn", "pair", "word", "left"] ds) G) : Cal P w K mg base (k + 1) "words_of" sp := by
  refine fn_D F sc_words_of hg (fun _ _ _ _ _ _ us hl => match us, hl with | [_], _ => rfl) len (fun cdv A outer s H hroom => ?_) hr
  have c : Kc (XF P w K mg base ["kinds", "found", "turn", "pair", "word", "left"] "words_of" (defScope s_words_of) f cdv A outer s H) k := ⟨rfl, sc_words_of.nd, hroom⟩
  have hp : PassesOwn (model P w) (XF P w K mg base ["kinds", "found", "turn", "pair", "word", "left"] "words_of" (defScope s_words_of) f cdv A outer s H).A (XF P w K mg base ["kinds", "found", "turn", "pair", "word", "left"] "words_of" (defScope s_words_of) f cdv A outer s H).env (XF P w K mg base ["kinds", "found", "turn", "pair", "word", "left"] "words_of" (defScope s_words_of) f cdv A outer s H).xe := PassesOwn.never
  exact dss_cons (ds_set (i := 1) c.nd rfl (by first | exact Or.inl rfl | exact Or.inr rfl) (de_lst (da_cons (de_tup (da_cons (de_tup da_nil) (da_cons (de_tuple c g.tuple (da_cons (de_var (i := 0)) da_nil)) da_nil))) da_nil))) (dss_cons (ds_for hp c.calm (di_range1 rfl g.range (da_cons (de_len c g.len (da_cons (de_var (i := 0)) da_nil)) da_nil)) (dg_name (i := 2) c.nd rfl (by first | exact Or.inl rfl | exact Or.inr rfl)) (dss_one (ds_setLc2 (i := 1) (own := [("word", 4), ("left", 5), ("pair", 3)]) (vs1 := [3]) c.calm c.nd rfl rfl rfl (di_seq (de_var (i := 1))) (blkOk_by (by rfl)) (by simp) (fun _ _ _ _ _ => dv_tup (n := 2) c.b.calm (dvs_cons (dv_name (i := 4) (by simp) c.b.nd rfl (by first | exact Or.inl rfl | exact Or.inr rfl)) (dvs_cons (dv_name (i := 5) (by simp) c.b.nd rfl (by first | exact Or.inl rfl | exact Or.inr rfl)) dvs_nil))) (fun _ _ _ _ _ => dts_nil) (fun _ _ _ _ _ => di_seq (de_call cwords_on c.b.room rfl (da_cons (de_var (i := 4)) (da_cons (de_var (i := 5)) da_nil)))) (fun _ _ _ _ _ => dv_name (i := 3) (by simp) c.b.nd rfl (by first | exact Or.inl rfl | exact Or.inr rfl)) (fun _ _ _ _ _ => dts_nil) (fun _ _ _ _ _ => de_var (i := 3))))) (dss_one (ds_ret (de_lc (own := [("word", 4), ("left", 5)]) c.calm c.nd (di_seq (de_var (i := 1))) (blkOk_by (by rfl)) (fun _ _ _ _ _ => dv_tup (n := 2) c.b.calm (dvs_cons (dv_name (i := 4) (by simp) c.b.nd rfl (by first | exact Or.inl rfl | exact Or.inr rfl)) (dvs_cons (dv_name (i := 5) (by simp) c.b.nd rfl (by first | exact Or.inl rfl | exact Or.inr rfl)) dvs_nil))) (fun _ _ _ _ _ => dts_nil) (fun _ _ _ _ _ => de_var (i := 4))))))
theorem sc_cuts_of : FnScope ["many", "most", "done", "waiting", "parts", "left", "one"] ["many", "most"] (defScope s_cuts_of) := ⟨rfl, rfl, rfl, by decide +kernel, rfl, by decide +kernel, by decide +kernel⟩
def r_cuts_of : TDS := dSeq (dAsg (dLst dNil) (dgName 2)) (dSeq (dAsg (dLst (dCons (dLst dNil) dNil)) (dgName 3)) (dSeq (dWhile (dTest (dBin oNeA (dVar 3) (dLst dNil))) (dSeq (dAsg (dM0 (dVar 3) oPop) (dgName 4)) (dSeq (dAsg (dBin oSub (dVar 0) (dB oSum (dCons (dVar 4) dNil))) (dgName 5)) (dIfS (dTest (dBin oEqA (dVar 5) (dC (.int 0)))) (dDrop (dM (dVar 2) (dCons (dVar 4) dNil) oAppend)) (dIfS (dTest (dBin oLt (dB oLen (dCons (dVar 4) dNil)) (dVar 1))) (dDrop (dM (dVar 3) (dCons (dLc (dRange2 (dCons (dC (.int 1)) (dCons (dBin oAdd (dVar 5) (dC (.int 1))) dNil))) (dgName 6) dYes (dBin oAdd (dVar 4) (dLst (dCons (dVar 6) dNil))) [6]) dNil) oExtend)) dNext))))) (dRet (dVar 2))))
theorem c_cuts_of {k : Nat} {sp : SpD} (g : Gs mg K) (F : FnP K "cuts_of" s_cuts_of f fd) (hg : mg "cuts_of" = some (.ref f)) (len : ∀ ds G Q, sp ds G Q → ds.length = 2)
    (hr : ∀ ds G Q, sp ds G Q → r_cuts_of { nx := fun _ G' => Q .non G', rt := Q } (startD ["many", "most", "done", "waiting", "parts", "left", "one"] ds) G) : Cal P w K mg base (k + 1) "cuts_of" sp := by
  refine fn_D F sc_cuts_of hg (fun _ _ _ _ _ _ us hl => match us, hl with | [_, _], _ => rfl) len (fun cdv A outer s H hroom => ?_) hr
  have c : Kc (XF P w K mg base ["many", "most", "done", "waiting", "parts", "left", "one"] "cuts_of" (defScope s_cuts_of) f cdv A outer s H) k := ⟨rfl, sc_cuts_of.nd, hroom⟩
  have hp : PassesOwn (model P w) (XF P w K mg base ["many", "most", "done", "waiting", "parts", "left", "one"] "cuts_of" (defScope s_cuts_of) f cdv A outer s H).A (XF P w K mg base ["many", "most", "done", "waiting", "parts", "left", "one"] "cuts_of" (defScope s_cuts_of) f cdv A outer s H).env (XF P w K mg base ["many", "most", "done", "waiting", "parts", "left", "one"] "cuts_of" (defScope s_cuts_of) f cdv A outer s H).xe := PassesOwn.never
  exact dss_cons (ds_set (i := 2) c.nd rfl (by first | exact Or.inl rfl | exact Or.inr rfl) (de_lst da_nil)) (dss_cons (ds_set (i := 3) c.nd rfl (by first | exact Or.inl rfl | exact Or.inr rfl) (de_lst (da_cons (de_lst da_nil) da_nil))) (dss_cons (ds_while hp (dt_c (ok_ne c) (de_var (i := 3)) (de_lst da_nil)) (dss_cons (ds_set (i := 4) c.nd rfl (by first | exact Or.inl rfl | exact Or.inr rfl) (de_pop (de_var (i := 3)))) (dss_cons (ds_set (i := 5) c.nd rfl (by first | exact Or.inl rfl | exact Or.inr rfl) (de_sub (de_var (i := 0)) (de_sum c g.sum (da_cons (de_var (i := 4)) da_nil)))) (dss_one (ds_if (dt_c (ok_eq c) (de_var (i := 5)) de_int) (dss_one (ds_expr (de_append (de_var (i := 2)) (de_var (i := 4))))) (dss_one (ds_if (dt_c (ok_lt c) (de_len c g.len (da_cons (de_var (i := 4)) da_nil)) (de_var (i := 1))) (dss_one (ds_expr (de_extend (de_var (i := 3)) (de_lc (own := [("one", 6)]) c.calm c.nd (di_range2 rfl g.range (da_cons de_int (da_cons (de_add (de_var (i := 5)) de_int) da_nil))) (blkOk_by (by rfl)) (fun _ _ _ _ _ => dv_name (i := 6) (by simp) c.b.nd rfl (by first | exact Or.inl rfl | exact Or.inr rfl)) (fun _ _ _ _ _ => dts_nil) (fun _ _ _ _ _ => de_add (de_var (i := 4)) (de_lst (da_cons (de_var (i := 6)) da_nil))))))) dss_nil))))))) (dss_one (ds_ret (de_var (i := 2))))))
theorem sc_cut_up : FnScope ["word", "parts", "found", "at", "many"] ["word", "parts"] (defScope s_cut_up) := ⟨rfl, rfl, rfl, by decide +kernel, rfl, by decide +kernel, by decide +kernel⟩
def r_cut_up : TDS := dSeq (dAsg (dLst dNil) (dgName 2)) (dSeq (dAsg (dC (.int 0)) (dgName 3)) (dSeq (dFor (diSeq (dVar 1)) (dgName 4) (dSeq (dDrop (dM (dVar 2) (dCons (dSl (dVar 0) (doSome (dVar 3)) (doSome (dBin oAdd (dVar 3) (dVar 4)))) dNil) oAppend)) (dAug 3 (dVar 4) (oIp fun i j => i + j)))) (dRet (dVar 2))))
theorem c_cut_up {k : Nat} {sp : SpD} (g : Gs mg K) (F : FnP K "cut_up" s_cut_up f fd) (hg : mg "cut_up" = some (.ref f)) (len : ∀ ds G Q, sp ds G Q → ds.length = 2)
    (hr : ∀ ds G Q, sp ds G Q → r_cut_up { nx := fun _ G' => Q .non G', rt := Q } (startD ["word", "parts", "found", "at", "many"] ds) G) : Cal P w K mg base (k + 1) "cut_up" sp := by
  refine fn_D F sc_cut_up hg (fun _ _ _ _ _ _ us hl => match us, hl with | [_, _], _ => rfl) len (fun cdv A outer s H hroom => ?_) hr
  have c : Kc (XF P w K mg base ["word", "parts", "found", "at", "many"] "cut_up" (defScope s_cut_up) f cdv A outer s H) k := ⟨rfl, sc_cut_up.nd, hroom⟩
  have hp : PassesOwn (model P w) (XF P w K mg base ["word", "parts", "found", "at", "many"] "cut_up" (defScope s_cut_up) f cdv A outer s H).A (XF P w K mg base ["word", "parts", "found", "at", "many"] "cut_up" (defScope s_cut_up) f cdv A outer s H).env (XF P w K mg base ["word", "parts", "found", "at", "many"] "cut_up" (defScope s_cut_up) f cdv A outer s H).xe := PassesOwn.never
  exact dss_cons (ds_set (i := 2) c.nd rfl (by first | exact Or.inl rfl | exact Or.inr rfl) (de_lst da_nil)) (dss_cons (ds_set (i := 3) c.nd rfl (by first | exact Or.inl rfl | exact Or.inr rfl) de_int) (dss_cons (ds_for hp c.calm (di_seq (de_var (i := 1))) (dg_name (i := 4) c.nd rfl (by first | exact Or.inl rfl | exact Or.inr rfl)) (dss_cons (ds_expr (de_append (de_var (i := 2)) (de_slice (de_var (i := 0)) (do_some (de_var (i := 3))) (do_some (de_add (de_var (i := 3)) (de_var (i := 4))))))) (dss_one (ds_augAdd (i := 3) c.nd rfl (by first | exact Or.inl rfl | exact Or.inr rfl) (de_var (i := 4)))))) (dss_one (ds_ret (de_var (i := 2))))))
theorem sc_yards_of : FnScope ["kinds", "most", "known", "parts", "word"] ["kinds", "most"] (defScope s_yards_of) := ⟨rfl, rfl, rfl, by decide +kernel, rfl, by decide +kernel, by decide +kernel⟩
def r_yards_of (sp_cuts_of : SpD) (sp_words_of : SpD) (sp_cut_up : SpD) (sp_laid : SpD) : TDS := dSeq (dAsg (dOr dDNewN dDNew) (dgName 2)) (dSeq (dFor (diSeq (dCall sp_cuts_of (dCons (dB oLen (dCons (dVar 0) dNil)) (dCons (dVar 1) dNil)))) (dgName 3) (dFor (diSeq (dCall sp_words_of (dCons (dVar 0) dNil))) (dgName 4) (dAsg (dC (.bl true)) (dgSub (dVar 2) (dCall sp_laid (dCons (dCall sp_cut_up (dCons (dVar 4) (dCons (dVar 3) dNil))) dNil)) oSetA)))) (dRet (dB oSortedA (dCons (dVar 2) dNil))))
theorem c_yards_of {k : Nat} {sp_cuts_of : SpD} {sp_words_of : SpD} {sp_cut_up : SpD} {sp_laid : SpD} {sp : SpD} (g : Gs mg K) (F : FnP K "yards_of" s_yards_of f fd) (hg : mg "yards_of" = some (.ref f)) (ccuts_of : Cal P w K mg base k "cuts_of" sp_cuts_of) (cwords_of : Cal P w K mg base k "words_of" sp_words_of) (ccut_up : Cal P w K mg base k "cut_up" sp_cut_up) (claid : Cal P w K mg base k "laid" sp_laid) (len : ∀ ds G Q, sp ds G Q → ds.length = 2)
    (hr : ∀ ds G Q, sp ds G Q → r_yards_of sp_cuts_of sp_words_of sp_cut_up sp_laid { nx := fun _ G' => Q .non G', rt := Q } (startD ["kinds", "most", "known", "parts", "word"] ds) G) : Cal P w K mg base (k + 1) "yards_of" sp := by
  refine fn_D F sc_yards_of hg (fun _ _ _ _ _ _ us hl => match us, hl with | [_, _], _ => rfl) len (fun cdv A outer s H hroom => ?_) hr
  have c : Kc (XF P w K mg base ["kinds", "most", "known", "parts", "word"] "yards_of" (defScope s_yards_of) f cdv A outer s H) k := ⟨rfl, sc_yards_of.nd, hroom⟩
  have hp : PassesOwn (model P w) (XF P w K mg base ["kinds", "most", "known", "parts", "word"] "yards_of" (defScope s_yards_of) f cdv A outer s H).A (XF P w K mg base ["kinds", "most", "known", "parts", "word"] "yards_of" (defScope s_yards_of) f cdv A outer s H).env (XF P w K mg base ["kinds", "most", "known", "parts", "word"] "yards_of" (defScope s_yards_of) f cdv A outer s H).xe := PassesOwn.never
  exact dss_cons (ds_set (i := 2) c.nd rfl (by first | exact Or.inl rfl | exact Or.inr rfl) (de_two de_dnewN de_dnew)) (dss_cons (ds_for hp c.calm (di_seq (de_call ccuts_of c.room rfl (da_cons (de_len c g.len (da_cons (de_var (i := 0)) da_nil)) (da_cons (de_var (i := 1)) da_nil)))) (dg_name (i := 3) c.nd rfl (by first | exact Or.inl rfl | exact Or.inr rfl)) (dss_one (ds_for hp c.calm (di_seq (de_call cwords_of c.room rfl (da_cons (de_var (i := 0)) da_nil))) (dg_name (i := 4) c.nd rfl (by first | exact Or.inl rfl | exact Or.inr rfl)) (dss_one (ds_asg de_bl (dg_subA c (de_var (i := 2)) (de_call claid c.room rfl (da_cons (de_call ccut_up c.room rfl (da_cons (de_var (i := 4)) (da_cons (de_var (i := 3)) da_nil))) da_nil)))))))) (dss_one (ds_ret (de_sorted c g.sorted (da_cons (de_var (i := 2)) da_nil)))))
theorem sc_like_classes : FnScope ["yard", "most", "known", "one", "form"] ["yard", "most"] (defScope s_like_classes) := ⟨rfl, rfl, rfl, by decide +kernel, rfl, by decide +kernel, by decide +kernel⟩
def r_like_classes (sp_kinds_in : SpD) (sp_yards_of : SpD) (sp_set_out_in : SpD) (sp_is_between : SpD) (sp_need_yard : SpX) (C_BadMany : Addr) : TDS := dSeq (dDropX (dCallX sp_need_yard (dCons (dVar 0) dNil))) (dSeq (dIfS (dNotT (dTest (dCall sp_is_between (dCons (dVar 1) (dCons (dC (.int 1)) (dCons (dC (.int 6)) dNil)))))) (dRaise C_BadMany (dVar 1)) dNext) (dSeq (dAsg (dOr dDNewN dDNew) (dgName 2)) (dSeq (dFor (diSeq (dCall sp_yards_of (dCons (dCall sp_kinds_in (dCons (dVar 0) dNil)) (dCons (dVar 1) dNil)))) (dgName 3) (dSeq (dAsg (dCall sp_set_out_in (dCons (dVar 3) dNil)) (dgName 4)) (dSeq (dIfS (dTest (dBin oNinA (dVar 4) (dVar 2))) (dAsg (dLst dNil) (dgSub (dVar 2) (dVar 4) oSetA)) dNext) (dDrop (dM (dBin oIxA (dVar 2) (dVar 4)) (dCons (dVar 3) dNil) oAppend))))) (dRet (dB oTupOf (dCons (dB oSortedA (dCons (dLockE (dLc (dKeysN (dVar 2)) (dgName 4) dYes (dB oTupOf (dCons (dBin oIxA (dVar 2) (dVar 4)) dNil)) [4])) dNil)) dNil))))))
theorem c_like_classes {k : Nat} {D0 fI : Addr} {sp_kinds_in : SpD} {sp_yards_of : SpD} {sp_set_out_in : SpD} {sp_is_between : SpD} {sp_need_yard : SpX} {C_BadMany : Addr} {sp : SpX} (g : Gs mg K) (F : FnP K "like_classes" s_like_classes f fd) (hg : mg "like_classes" = some (.ref f)) (ckinds_in : Cal P w K mg base (k + 1) "kinds_in" sp_kinds_in) (cyards_of : Cal P w K mg base (k + 1) "yards_of" sp_yards_of) (cset_out_in : Cal P w K mg base (k + 1) "set_out_in" sp_set_out_in) (cis_between : Cal P w K mg base (k + 1) "is_between" sp_is_between) (cneed_yard : CalX P w K mg base (k + 1) "need_yard" sp_need_yard) (xBadMany : YInit P K D0 fI ∧ YC K D0 fI C_BadMany) (mBadMany : mg "BadMany" = some (.ref C_BadMany)) (len : ∀ ds G Q QX, sp ds G Q QX → ds.length = 2)
    (hr : ∀ ds G Q QX, sp ds G Q QX → r_like_classes sp_kinds_in sp_yards_of sp_set_out_in sp_is_between sp_need_yard C_BadMany { nx := fun _ G' => Q .non G', rt := Q, ex := QX } (startD ["yard", "most", "known", "one", "form"] ds) G) : CalX P w K mg base (k + 2) "like_classes" sp ∧ CalXR P w K mg base (k + 2) "like_classes" ["most", "yard"] sp := by
  obtain ⟨tMOST_COLUMNS, gMOST_COLUMNS⟩ := g.MOST_COLUMNS
  refine fn_DX2 F sc_like_classes hg (fun _ _ _ _ _ _ us hl => match us, hl with | [_, _], _ => rfl) len (fun cdv A outer s H E hroom => ?_) hr rfl (fun _ _ _ _ _ _ us hl => match us, hl with | [_, _], _ => rfl)
  have c : Kc (XG P w K mg base ["yard", "most", "known", "one", "form"] "like_classes" (defScope s_like_classes) f cdv A outer s H E) (k + 1) := ⟨rfl, sc_like_classes.nd, hroom⟩
  have hp : PassesOwn (model P w) (XG P w K mg base ["yard", "most", "known", "one", "form"] "like_classes" (defScope s_like_classes) f cdv A outer s H E).A (XG P w K mg base ["yard", "most", "known", "one", "form"] "like_classes" (defScope s_like_classes) f cdv A outer s H E).env (XG P w K mg base ["yard", "most", "known", "one", "form"] "like_classes" (defScope s_like_classes) f cdv A outer s H E).xe := passes_G
  exact dss_cons (ds_exprX (de_callX cneed_yard c.room rfl (da_cons (de_var (i := 0)) da_nil))) (dss_cons (ds_if (dt_not (dt_val (de_call cis_between c.room rfl (da_cons (de_var (i := 1)) (da_cons de_int (da_cons (de_gint rfl gMOST_COLUMNS) da_nil)))))) (dss_one (ds_raise c.calm xBadMany.1 xBadMany.2 g.super c.room rfl mBadMany (de_var (i := 1)))) dss_nil) (dss_cons (ds_set (i := 2) c.nd rfl (by first | exact Or.inl rfl | exact Or.inr rfl) (de_two de_dnewN de_dnew)) (dss_cons (ds_for hp c.calm (di_seq (de_call cyards_of c.room rfl (da_cons (de_call ckinds_in c.room rfl (da_cons (de_var (i := 0)) da_nil)) (da_cons (de_var (i := 1)) da_nil)))) (dg_name (i := 3) c.nd rfl (by first | exact Or.inl rfl | exact Or.inr rfl)) (dss_cons (ds_set (i := 4) c.nd rfl (by first | exact Or.inl rfl | exact Or.inr rfl) (de_call cset_out_in c.room rfl (da_cons (de_var (i := 3)) da_nil))) (dss_cons (ds_if (dt_c (ok_nin c) (de_var (i := 4)) (de_var (i := 2))) (dss_one (ds_asg (de_lst da_nil) (dg_subA c (de_var (i := 2)) (de_var (i := 4))))) dss_nil) (dss_one (ds_expr (de_append (de_ixA c (de_var (i := 2)) (de_var (i := 4))) (de_var (i := 3)))))))) (dss_one (ds_ret (de_tuple c g.tuple (da_cons (de_sorted c g.sorted (da_cons (de_lock (de_lc (own := [("form", 4)]) c.calm c.nd (di_keysN (de_var (i := 2))) (blkOk_by (by rfl)) (fun _ _ _ _ _ => dv_name (i := 4) (by simp) c.b.nd rfl (by first | exact Or.inl rfl | exact Or.inr rfl)) (fun _ _ _ _ _ => dts_nil) (fun _ _ _ _ _ => de_tuple c.b g.tuple (da_cons (de_ixA c.b (de_var (i := 2)) (de_var (i := 4))) da_nil)))) da_nil)) da_nil)))))))
theorem sc_pulls_from : FnScope ["yard", "found", "kind"] ["yard"] (defScope s_pulls_from) := ⟨rfl, rfl, rfl, by decide +kernel, rfl, by decide +kernel, by decide +kernel⟩
def r_pulls_from (sp_kinds_in : SpD) : TDS := dSeq (dAsg (dLst dNil) (dgName 1)) (dSeq (dFor (diSeq (dCall sp_kinds_in (dCons (dVar 0) dNil))) (dgName 2) (dIfS (dOrT (dTest (dBin oEqA (dVar 1) (dLst dNil))) (dTest (dBin oNeA (dBin oIxA (dVar 1) (dNeg (dC (.int 1)))) (dVar 2)))) (dDrop (dM (dVar 1) (dCons (dVar 2) dNil) oAppend)) dNext)) (dRet (dVar 1)))
theorem c_pulls_from {k : Nat} {sp_kinds_in : SpD} {sp : SpD} (g : Gs mg K) (F : FnP K "pulls_from" s_pulls_from f fd) (hg : mg "pulls_from" = some (.ref f)) (ckinds_in : Cal P w K mg base k "kinds_in" sp_kinds_in) (len : ∀ ds G Q, sp ds G Q → ds.length = 1)
    (hr : ∀ ds G Q, sp ds G Q → r_pulls_from sp_kinds_in { nx := fun _ G' => Q .non G', rt := Q } (startD ["yard", "found", "kind"] ds) G) : Cal P w K mg base (k + 1) "pulls_from" sp := by
  refine fn_D F sc_pulls_from hg (fun _ _ _ _ _ _ us hl => match us, hl with | [_], _ => rfl) len (fun cdv A outer s H hroom => ?_) hr
  have c : Kc (XF P w K mg base ["yard", "found", "kind"] "pulls_from" (defScope s_pulls_from) f cdv A outer s H) k := ⟨rfl, sc_pulls_from.nd, hroom⟩
  have hp : PassesOwn (model P w) (XF P w K mg base ["yard", "found", "kind"] "pulls_from" (defScope s_pulls_from) f cdv A outer s H).A (XF P w K mg base ["yard", "found", "kind"] "pulls_from" (defScope s_pulls_from) f cdv A outer s H).env (XF P w K mg base ["yard", "found", "kind"] "pulls_from" (defScope s_pulls_from) f cdv A outer s H).xe := PassesOwn.never
  exact dss_cons (ds_set (i := 1) c.nd rfl (by first | exact Or.inl rfl | exact Or.inr rfl) (de_lst da_nil)) (dss_cons (ds_for hp c.calm (di_seq (de_call ckinds_in c.room rfl (da_cons (de_var (i := 0)) da_nil))) (dg_name (i := 2) c.nd rfl (by first | exact Or.inl rfl | exact Or.inr rfl)) (dss_one (ds_if (dw_t (dw_or (dt_c (ok_eq c) (de_var (i := 1)) (de_lst da_nil)) (dw_or1 (dt_c (ok_ne c) (de_ixA c (de_var (i := 1)) (de_neg de_int)) (de_var (i := 2)))))) (dss_one (ds_expr (de_append (de_var (i := 1)) (de_var (i := 2))))) dss_nil))) (dss_one (ds_ret (de_var (i := 1)))))
theorem sc_steps_on : FnScope ["level", "further", "kinds", "kind", "yard", "other", "one", "behind", "two", "beside"] ["level"] (defScope s_steps_on) := ⟨rfl, rfl, rfl, by decide +kernel, rfl, by decide +kernel, by decide +kernel⟩
def r_steps_on (sp_pulls_from : SpD) (sp_pulled : SpD) : TDS := dSeq (dAsg (dOr dDNewN dDNew) (dgName 1)) (dSeq (dLockS (dFor (dItemsN (dVar 0)) (dgTup 2 (dgCons (dgTup 2 (dgCons (dgName 4) (dgCons (dgName 5) dgNil))) (dgCons (dgName 2) dgNil))) (dFor (diSeq (dCall sp_pulls_from (dCons (dVar 4) dNil))) (dgName 3) (dSeq (dAsg (dCall sp_pulled (dCons (dVar 4) (dCons (dVar 3) dNil))) (dgTup 2 (dgCons (dgName 6) (dgCons (dgName 7) dgNil)))) (dSeq (dAsg (dCall sp_pulled (dCons (dVar 5) (dCons (dVar 3) dNil))) (dgTup 2 (dgCons (dgName 8) (dgCons (dgName 9) dgNil)))) (dSeq (dIfS (dTest (dBin oNeA (dVar 6) (dVar 8))) (dRet (dTup (dCons (dBin oAdd (dVar 2) (dTup (dCons (dVar 3) dNil))) (dCons (dOr dDNewN dDNew) dNil)))) dNext) (dIfS (dAndT (dTest (dBin oNeA (dVar 7) (dVar 9))) (dTest (dBin oNinA (dTup (dCons (dVar 7) (dCons (dVar 9) dNil))) (dVar 1)))) (dAsg (dBin oAdd (dVar 2) (dTup (dCons (dVar 3) dNil))) (dgSub (dVar 1) (dTup (dCons (dVar 7) (dCons (dVar 9) dNil))) oSetA)) dNext))))))) (dRet (dTup (dCons (dTup dNil) (dCons (dVar 1) dNil)))))
theorem c_steps_on {k : Nat} {sp_pulls_from : SpD} {sp_pulled : SpD} {sp : SpD} (g : Gs mg K) (F : FnP K "steps_on" s_steps_on f fd) (hg : mg "steps_on" = some (.ref f)) (cpulls_from : Cal P w K mg base k "pulls_from" sp_pulls_from) (cpulled : Cal P w K mg base k "pulled" sp_pulled) (len : ∀ ds G Q, sp ds G Q → ds.length = 1)
    (hr : ∀ ds G Q, sp ds G Q → r_steps_on sp_pulls_from sp_pulled { nx := fun _ G' => Q .non G', rt := Q } (startD ["level", "further", "kinds", "kind", "yard", "other", "one", "behind", "two", "beside"] ds) G) : Cal P w K mg base (k + 1) "steps_on" sp := by
  refine fn_D F sc_steps_on hg (fun _ _ _ _ _ _ us hl => match us, hl with | [_], _ => rfl) len (fun cdv A outer s H hroom => ?_) hr
  have c : Kc (XF P w K mg base ["level", "further", "kinds", "kind", "yard", "other", "one", "behind", "two", "beside"] "steps_on" (defScope s_steps_on) f cdv A outer s H) k := ⟨rfl, sc_steps_on.nd, hroom⟩
  have hp : PassesOwn (model P w) (XF P w K mg base ["level", "further", "kinds", "kind", "yard", "other", "one", "behind", "two", "beside"] "steps_on" (defScope s_steps_on) f cdv A outer s H).A (XF P w K mg base ["level", "further", "kinds", "kind", "yard", "other", "one", "behind", "two", "beside"] "steps_on" (defScope s_steps_on) f cdv A outer s H).env (XF P w K mg base ["level", "further", "kinds", "kind", "yard", "other", "one", "behind", "two", "beside"] "steps_on" (defScope s_steps_on) f cdv A outer s H).xe := PassesOwn.never
  exact dss_cons (ds_set (i := 1) c.nd rfl (by first | exact Or.inl rfl | exact Or.inr rfl) (de_two de_dnewN de_dnew)) (dss_cons (ds_lock (ds_for hp c.calm (di_itemsN (de_var (i := 0))) (dg_tup (n := 2) c.calm (dgs_cons (dg_tup (n := 2) c.calm (dgs_cons (dg_name (i := 4) c.nd rfl (by first | exact Or.inl rfl | exact Or.inr rfl)) (dgs_cons (dg_name (i := 5) c.nd rfl (by first | exact Or.inl rfl | exact Or.inr rfl)) dgs_nil))) (dgs_cons (dg_name (i := 2) c.nd rfl (by first | exact Or.inl rfl | exact Or.inr rfl)) dgs_nil))) (dss_one (ds_for hp c.calm (di_seq (de_call cpulls_from c.room rfl (da_cons (de_var (i := 4)) da_nil))) (dg_name (i := 3) c.nd rfl (by first | exact Or.inl rfl | exact Or.inr rfl)) (dss_cons (ds_asg (de_call cpulled c.room rfl (da_cons (de_var (i := 4)) (da_cons (de_var (i := 3)) da_nil))) (dg_tup (n := 2) c.calm (dgs_cons (dg_name (i := 6) c.nd rfl (by first | exact Or.inl rfl | exact Or.inr rfl)) (dgs_cons (dg_name (i := 7) c.nd rfl (by first | exact Or.inl rfl | exact Or.inr rfl)) dgs_nil)))) (dss_cons (ds_asg (de_call cpulled c.room rfl (da_cons (de_var (i := 5)) (da_cons (de_var (i := 3)) da_nil))) (dg_tup (n := 2) c.calm (dgs_cons (dg_name (i := 8) c.nd rfl (by first | exact Or.inl rfl | exact Or.inr rfl)) (dgs_cons (dg_name (i := 9) c.nd rfl (by first | exact Or.inl rfl | exact Or.inr rfl)) dgs_nil)))) (dss_cons (ds_if (dt_c (ok_ne c) (de_var (i := 6)) (de_var (i := 8))) (dss_one (ds_ret (de_tup (da_cons (de_add (de_var (i := 2)) (de_tup (da_cons (de_var (i := 3)) da_nil))) (da_cons (de_two de_dnewN de_dnew) da_nil))))) dss_nil) (dss_one (ds_if (dw_t (dw_and (dt_c (ok_ne c) (de_var (i := 7)) (de_var (i := 9))) (dw_and1 (dt_c (ok_nin c) (de_tup (da_cons (de_var (i := 7)) (da_cons (de_var (i := 9)) da_nil))) (de_var (i := 1)))))) (dss_one (ds_asg (de_add (de_var (i := 2)) (de_tup (da_cons (de_var (i := 3)) da_nil))) (dg_subA c (de_var (i := 1)) (de_tup (da_cons (de_var (i := 7)) (da_cons (de_var (i := 9)) da_nil)))))) dss_nil))))))))) (dss_one (ds_ret (de_tup (da_cons (de_tup da_nil) (da_cons (de_var (i := 1)) da_nil))))))
theorem sc_parting : FnScope ["yard", "other", "level", "found"] ["yard", "other"] (defScope s_parting) := ⟨rfl, rfl, rfl, by decide +kernel, rfl, by decide +kernel, by decide +kernel⟩
def r_parting (sp_steps_on : SpD) (sp_set_out_in : SpD) : TDS := dSeq (dIfS (dTest (dBin oEqA (dCall sp_set_out_in (dCons (dVar 0) dNil)) (dCall sp_set_out_in (dCons (dVar 1) dNil)))) (dRet (dTup dNil)) dNext) (dSeq (dAsg (dDispN (dTup (dCons (dVar 0) (dCons (dVar 1) dNil))) (dTup dNil)) (dgName 2)) (dSeq (dWhile (dTest (dBin oNeA (dVar 2) (dOr dDNewN dDNew))) (dSeq (dAsg (dCall sp_steps_on (dCons (dVar 2) dNil)) (dgTup 2 (dgCons (dgName 3) (dgCons (dgName 2) dgNil)))) (dIfS (dTest (dBin oNeA (dVar 3) (dTup dNil))) (dRet (dVar 3)) dNext))) (dRet (dTup dNil))))
theorem c_parting {k : Nat} {sp_steps_on : SpD} {sp_set_out_in : SpD} {sp : SpD} (g : Gs mg K) (F : FnP K "parting" s_parting f fd) (hg : mg "parting" = some (.ref f)) (csteps_on : Cal P w K mg base k "steps_on" sp_steps_on) (cset_out_in : Cal P w K mg base k "set_out_in" sp_set_out_in) (len : ∀ ds G Q, sp ds G Q → ds.length = 2)
    (hr : ∀ ds G Q, sp ds G Q → r_parting sp_steps_on sp_set_out_in { nx := fun _ G' => Q .non G', rt := Q } (startD ["yard", "other", "level", "found"] ds) G) : Cal P w K mg base (k + 1) "parting" sp := by
  refine fn_D F sc_parting hg (fun _ _ _ _ _ _ us hl => match us, hl with | [_, _], _ => rfl) len (fun cdv A outer s H hroom => ?_) hr
  have c : Kc (XF P w K mg base ["yard", "other", "level", "found"] "parting" (defScope s_parting) f cdv A outer s H) k := ⟨rfl, sc_parting.nd, hroom⟩
  have hp : PassesOwn (model P w) (XF P w K mg base ["yard", "other", "level", "found"] "parting" (defScope s_parting) f cdv A outer s H).A (XF P w K mg base ["yard", "other", "level", "found"] "parting" (defScope s_parting) f cdv A outer s H).env (XF P w K mg base ["yard", "other", "level", "found"] "parting" (defScope s_parting) f cdv A outer s H).xe := PassesOwn.never
  exact dss_cons (ds_if (dt_c (ok_eq c) (de_call cset_out_in c.room rfl (da_cons (de_var (i := 0)) da_nil)) (de_call cset_out_in c.room rfl (da_cons (de_var (i := 1)) da_nil))) (dss_one (ds_ret (de_tup da_nil))) dss_nil) (dss_cons (ds_set (i := 2) c.nd rfl (by first | exact Or.inl rfl | exact Or.inr rfl) (de_dispN c.u (de_tup (da_cons (de_var (i := 0)) (da_cons (de_var (i := 1)) da_nil))) (de_tup da_nil))) (dss_cons (ds_while hp (dt_c (ok_ne c) (de_var (i := 2)) (de_two de_dnewN de_dnew)) (dss_cons (ds_asg (de_call csteps_on c.room rfl (da_cons (de_var (i := 2)) da_nil)) (dg_tup (n := 2) c.calm (dgs_cons (dg_name (i := 3) c.nd rfl (by first | exact Or.inl rfl | exact Or.inr rfl)) (dgs_cons (dg_name (i := 2) c.nd rfl (by first | exact Or.inl rfl | exact Or.inr rfl)) dgs_nil)))) (dss_one (ds_if (dt_c (ok_ne c) (de_var (i := 3)) (de_tup da_nil)) (dss_one (ds_ret (de_var (i := 3)))) dss_nil)))) (dss_one (ds_ret (de_tup da_nil)))))
theorem sc_judge_like : FnScope ["yard", "other", "found"] ["yard", "other"] (defScope s_judge_like) := ⟨rfl, rfl, rfl, by decide +kernel, rfl, by decide +kernel, by decide +kernel⟩
def r_judge_like (sp_parting : SpD) (sp_kinds_in : SpD) (sp_need_yard : SpX) (C_BadYard : Addr) : TDS := dSeq (dDropX (dCallX sp_need_yard (dCons (dVar 0) dNil))) (dSeq (dDropX (dCallX sp_need_yard (dCons (dVar 1) dNil))) (dSeq (dIfS (dTest (dBin oNeA (dCall sp_kinds_in (dCons (dVar 0) dNil)) (dCall sp_kinds_in (dCons (dVar 1) dNil)))) (dRaise C_BadYard (dVar 1)) dNext) (dSeq (dAsg (dCall sp_parting (dCons (dVar 0) (dCons (dVar 1) dNil))) (dgName 2)) (dRet (dIf (dTest (dBin oEqA (dVar 2) (dTup dNil))) (dC (.tup ((["alike"] : List Str).map D.str))) (dTup (dCons (dC (.str "unlike")) (dCons (dVar 2) dNil))))))))
theorem c_judge_like {k : Nat} {D0 fI : Addr} {sp_parting : SpD} {sp_kinds_in : SpD} {sp_need_yard : SpX} {C_BadYard : Addr} {sp : SpX} (g : Gs mg K) (F : FnP K "judge_like" s_judge_like f fd) (hg : mg "judge_like" = some (.ref f)) (cparting : Cal P w K mg base (k + 1) "parting" sp_parting) (ckinds_in : Cal P w K mg base (k + 1) "kinds_in" sp_kinds_in) (cneed_yard : CalX P w K mg base (k + 1) "need_yard" sp_need_yard) (xBadYard : YInit P K D0 fI ∧ YC K D0 fI C_BadYard) (mBadYard : mg "BadYard" = some (.ref C_BadYard)) (len : ∀ ds G Q QX, sp ds G Q QX → ds.length = 2)
    (hr : ∀ ds G Q QX, sp ds G Q QX → r_judge_like sp_parting sp_kinds_in sp_need_yard C_BadYard { nx := fun _ G' => Q .non G', rt := Q, ex := QX } (startD ["yard", "other", "found"] ds) G) : CalX P w K mg base (k + 2) "judge_like" sp := by
  obtain ⟨tUNLIKE, gUNLIKE⟩ := g.UNLIKE
  refine fn_DX F sc_judge_like hg (fun _ _ _ _ _ _ us hl => match us, hl with | [_, _], _ => rfl) len (fun cdv A outer s H E hroom => ?_) hr
  have c : Kc (XG P w K mg base ["yard", "other", "found"] "judge_like" (defScope s_judge_like) f cdv A outer s H E) (k + 1) := ⟨rfl, sc_judge_like.nd, hroom⟩
  exact dss_cons (ds_exprX (de_callX cneed_yard c.room rfl (da_cons (de_var (i := 0)) da_nil))) (dss_cons (ds_exprX (de_callX cneed_yard c.room rfl (da_cons (de_var (i := 1)) da_nil))) (dss_cons (ds_if (dt_c (ok_ne c) (de_call ckinds_in c.room rfl (da_cons (de_var (i := 0)) da_nil)) (de_call ckinds_in c.room rfl (da_cons (de_var (i := 1)) da_nil))) (dss_one (ds_raise c.calm xBadYard.1 xBadYard.2 g.super c.room rfl mBadYard (de_var (i := 1)))) dss_nil) (dss_cons (ds_set (i := 2) c.nd rfl (by first | exact Or.inl rfl | exact Or.inr rfl) (de_call cparting c.room rfl (da_cons (de_var (i := 0)) (da_cons (de_var (i := 1)) da_nil)))) (dss_one (ds_ret (de_ifExp (dt_c (ok_eq c) (de_var (i := 2)) (de_tup da_nil)) (GTup.de (zs := ["alike"]) g.ALIKE) (de_tup (da_cons (de_gstr rfl gUNLIKE) (da_cons (de_var (i := 2)) da_nil)))))))))
theorem sc__law_same : FnScope ["told", "due", "waiting", "one", "other"] ["told", "due"] (defScope s__law_same) := ⟨rfl, rfl, rfl, by decide +kernel, rfl, by decide +kernel, by decide +kernel⟩
def r__law_same : TDS := dSeq (dAsg (dLst (dCons (dTup (dCons (dVar 0) (dCons (dVar 1) dNil))) dNil)) (dgName 2)) (dSeq (dWhile (dTest (dBin oNeA (dVar 2) (dLst dNil))) (dSeq (dAsg (dM0 (dVar 2) oPop) (dgTup 2 (dgCons (dgName 3) (dgCons (dgName 4) dgNil)))) (dIfS (dOrT (dTest (dB oIsi (dCons (dVar 4) (dCons (dC (.ty "tuple")) dNil)))) (dTest (dB oIsi (dCons (dVar 4) (dCons (dC (.ty "list")) dNil))))) (dSeq (dIfS (dOrT (dTest (dBin oNeA (dB oIsi (dCons (dVar 3) (dCons (dC (.ty "tuple")) dNil))) (dB oIsi (dCons (dVar 4) (dCons (dC (.ty "tuple")) dNil))))) (dTest (dBin oNeA (dB oIsi (dCons (dVar 3) (dCons (dC (.ty "list")) dNil))) (dB oIsi (dCons (dVar 4) (dCons (dC (.ty "list")) dNil)))))) (dRet (dC (.bl false))) dNext) (dSeq (dIfS (dTest (dBin oNeA (dB oLen (dCons (dVar 3) dNil)) (dB oLen (dCons (dVar 4) dNil)))) (dRet (dC (.bl false))) dNext) (dDrop (dM (dVar 2) (dCons (dListZip (dCons (dVar 3) (dCons (dVar 4) dNil))) dNil) oExtend)))) (dIfS (dOrT (dTest (dIsN (dVar 4))) (dTest (dIsN (dVar 3)))) (dIfS (dOrT (dTest (dNotN (dVar 3))) (dTest (dNotN (dVar 4)))) (dRet (dC (.bl false))) dNext) (dIfS (dOrT (dTest (dBin oNeA (dB oIsi (dCons (dVar 3) (dCons (dC (.ty "bool")) dNil))) (dB oIsi (dCons (dVar 4) (dCons (dC (.ty "bool")) dNil))))) (dTest (dBin oNeA (dB oIsi (dCons (dVar 3) (dCons (dC (.ty "int")) dNil))) (dB oIsi (dCons (dVar 4) (dCons (dC (.ty "int")) dNil)))))) (dRet (dC (.bl false))) (dIfS (dOrT (dTest (dBin oNeA (dB oIsi (dCons (dVar 3) (dCons (dC (.ty "str")) dNil))) (dB oIsi (dCons (dVar 4) (dCons (dC (.ty "str")) dNil))))) (dTest (dBin oNeA (dVar 3) (dVar 4)))) (dRet (dC (.bl false))) dNext)))))) (dRet (dC (.bl true))))
theorem c__law_same {k : Nat} {sp : SpD} (g : Gs mg K) (F : FnP K "_law_same" s__law_same f fd) (hg : mg "_law_same" = some (.ref f)) (len : ∀ ds G Q, sp ds G Q → ds.length = 2)
    (hr : ∀ ds G Q, sp ds G Q → r__law_same { nx := fun _ G' => Q .non G', rt := Q } (startD ["told", "due", "waiting", "one", "other"] ds) G) : Cal P w K mg base (k + 1) "_law_same" sp := by
  refine fn_D F sc__law_same hg (fun _ _ _ _ _ _ us hl => match us, hl with | [_, _], _ => rfl) len (fun cdv A outer s H hroom => ?_) hr
  have c : Kc (XF P w K mg base ["told", "due", "waiting", "one", "other"] "_law_same" (defScope s__law_same) f cdv A outer s H) k := ⟨rfl, sc__law_same.nd, hroom⟩
  have hp : PassesOwn (model P w) (XF P w K mg base ["told", "due", "waiting", "one", "other"] "_law_same" (defScope s__law_same) f cdv A outer s H).A (XF P w K mg base ["told", "due", "waiting", "one", "other"] "_law_same" (defScope s__law_same) f cdv A outer s H).env (XF P w K mg base ["told", "due", "waiting", "one", "other"] "_law_same" (defScope s__law_same) f cdv A outer s H).xe := PassesOwn.never
  exact dss_cons (ds_set (i := 2) c.nd rfl (by first | exact Or.inl rfl | exact Or.inr rfl) (de_lst (da_cons (de_tup (da_cons (de_var (i := 0)) (da_cons (de_var (i := 1)) da_nil))) da_nil))) (dss_cons (ds_while hp (dt_c (ok_ne c) (de_var (i := 2)) (de_lst da_nil)) (dss_cons (ds_asg (de_pop (de_var (i := 2))) (dg_tup (n := 2) c.calm (dgs_cons (dg_name (i := 3) c.nd rfl (by first | exact Or.inl rfl | exact Or.inr rfl)) (dgs_cons (dg_name (i := 4) c.nd rfl (by first | exact Or.inl rfl | exact Or.inr rfl)) dgs_nil)))) (dss_one (ds_if (dw_t (dw_or (dt_val (de_isi c g.isinstance (da_cons (de_var (i := 4)) (da_cons (de_ty rfl g.tuple PyProof.Rows.boot_tuple) da_nil)))) (dw_or1 (dt_val (de_isi c g.isinstance (da_cons (de_var (i := 4)) (da_cons (de_ty rfl g.list PyProof.Rows.boot_list) da_nil))))))) (dss_cons (ds_if (dw_t (dw_or (dt_c (ok_ne c) (de_isi c g.isinstance (da_cons (de_var (i := 3)) (da_cons (de_ty rfl g.tuple PyProof.Rows.boot_tuple) da_nil))) (de_isi c g.isinstance (da_cons (de_var (i := 4)) (da_cons (de_ty rfl g.tuple PyProof.Rows.boot_tuple) da_nil)))) (dw_or1 (dt_c (ok_ne c) (de_isi c g.isinstance (da_cons (de_var (i := 3)) (da_cons (de_ty rfl g.list PyProof.Rows.boot_list) da_nil))) (de_isi c g.isinstance (da_cons (de_var (i := 4)) (da_cons (de_ty rfl g.list PyProof.Rows.boot_list) da_nil))))))) (dss_one (ds_ret de_bl)) dss_nil) (dss_cons (ds_if (dt_c (ok_ne c) (de_len c g.len (da_cons (de_var (i := 3)) da_nil)) (de_len c g.len (da_cons (de_var (i := 4)) da_nil))) (dss_one (ds_ret de_bl)) dss_nil) (dss_one (ds_expr (de_extend (de_var (i := 2)) (de_listZip c.calm rfl g.list rfl g.zip (da_cons (de_var (i := 3)) (da_cons (de_var (i := 4)) da_nil)))))))) (dss_one (ds_if (dw_t (dw_or (dt_isN (de_var (i := 4))) (dw_or1 (dt_isN (de_var (i := 3)))))) (dss_one (ds_if (dw_t (dw_or (dt_notN (de_var (i := 3))) (dw_or1 (dt_notN (de_var (i := 4)))))) (dss_one (ds_ret de_bl)) dss_nil)) (dss_one (ds_if (dw_t (dw_or (dt_c (ok_ne c) (de_isi c g.isinstance (da_cons (de_var (i := 3)) (da_cons (de_ty rfl g.bool PyProof.Rows.boot_bool) da_nil))) (de_isi c g.isinstance (da_cons (de_var (i := 4)) (da_cons (de_ty rfl g.bool PyProof.Rows.boot_bool) da_nil)))) (dw_or1 (dt_c (ok_ne c) (de_isi c g.isinstance (da_cons (de_var (i := 3)) (da_cons (de_ty rfl g.int PyProof.Rows.boot_int) da_nil))) (de_isi c g.isinstance (da_cons (de_var (i := 4)) (da_cons (de_ty rfl g.int PyProof.Rows.boot_int) da_nil))))))) (dss_one (ds_ret de_bl)) (dss_one (ds_if (dw_t (dw_or (dt_c (ok_ne c) (de_isi c g.isinstance (da_cons (de_var (i := 3)) (da_cons (de_ty rfl g.str PyProof.Rows.boot_str) da_nil))) (de_isi c g.isinstance (da_cons (de_var (i := 4)) (da_cons (de_ty rfl g.str PyProof.Rows.boot_str) da_nil)))) (dw_or1 (dt_c (ok_ne c) (de_var (i := 3)) (de_var (i := 4)))))) (dss_one (ds_ret de_bl)) dss_nil)))))))))) (dss_one (ds_ret de_bl)))
theorem sc__law_set_out : FnScope ["yard", "found", "column", "is_one", "one"] ["yard"] (defScope s__law_set_out) := ⟨rfl, rfl, rfl, by decide +kernel, rfl, by decide +kernel, by decide +kernel⟩
def r__law_set_out : TDS := dSeq (dAsg (dLst dNil) (dgName 1)) (dSeq (dFor (diSeq (dVar 0)) (dgName 2) (dSeq (dAsg (dBin oEqA (dLc (diSeq (dVar 2)) (dgName 4) (dTest (dBin oNeA (dVar 4) (dBin oIxA (dVar 2) (dC (.int 0))))) (dVar 4) [4]) (dLst dNil)) (dgName 3)) (dDrop (dM (dVar 1) (dCons (dIf (dTest (dVar 3)) (dLc (diSeq (dVar 2)) (dgName 4) dYes (dTup (dCons (dVar 4) dNil)) [4]) (dLst (dCons (dVar 2) dNil))) dNil) oExtend)))) (dRet (dB oTupOf (dCons (dB oSortedA (dCons (dVar 1) dNil)) dNil))))
theorem c__law_set_out {k : Nat} {sp : SpD} (g : Gs mg K) (F : FnP K "_law_set_out" s__law_set_out f fd) (hg : mg "_law_set_out" = some (.ref f)) (len : ∀ ds G Q, sp ds G Q → ds.length = 1)
    (hr : ∀ ds G Q, sp ds G Q → r__law_set_out { nx := fun _ G' => Q .non G', rt := Q } (startD ["yard", "found", "column", "is_one", "one"] ds) G) : Cal P w K mg base (k + 1) "_law_set_out" sp := by
  refine fn_D F sc__law_set_out hg (fun _ _ _ _ _ _ us hl => match us, hl with | [_], _ => rfl) len (fun cdv A outer s H hroom => ?_) hr
  have c : Kc (XF P w K mg base ["yard", "found", "column", "is_one", "one"] "_law_set_out" (defScope s__law_set_out) f cdv A outer s H) k := ⟨rfl, sc__law_set_out.nd, hroom⟩
  have hp : PassesOwn (model P w) (XF P w K mg base ["yard", "found", "column", "is_one", "one"] "_law_set_out" (defScope s__law_set_out) f cdv A outer s H).A (XF P w K mg base ["yard", "found", "column", "is_one", "one"] "_law_set_out" (defScope s__law_set_out) f cdv A outer s H).env (XF P w K mg base ["yard", "found", "column", "is_one", "one"] "_law_set_out" (defScope s__law_set_out) f cdv A outer s H).xe := PassesOwn.never
  exact dss_cons (ds_set (i := 1) c.nd rfl (by first | exact Or.inl rfl | exact Or.inr rfl) (de_lst da_nil)) (dss_cons (ds_for hp c.calm (di_seq (de_var (i := 0))) (dg_name (i := 2) c.nd rfl (by first | exact Or.inl rfl | exact Or.inr rfl)) (dss_cons (ds_set (i := 3) c.nd rfl (by first | exact Or.inl rfl | exact Or.inr rfl) (de_c (ok_eq c) (de_lc (own := [("one", 4)]) c.calm c.nd (di_seq (de_var (i := 2))) (blkOk_by (by rfl)) (fun _ _ _ _ _ => dv_name (i := 4) (by simp) c.b.nd rfl (by first | exact Or.inl rfl | exact Or.inr rfl)) (fun _ _ _ _ _ => dts_one (dt_c (ok_ne c.b) (de_var (i := 4)) (de_ixA c.b (de_var (i := 2)) de_int))) (fun _ _ _ _ _ => de_var (i := 4))) (de_lst da_nil))) (dss_one (ds_expr (de_extend (de_var (i := 1)) (de_ifExp (dt_val (de_var (i := 3))) (de_lc (own := [("one", 4)]) c.calm c.nd (di_seq (de_var (i := 2))) (blkOk_by (by rfl)) (fun _ _ _ _ _ => dv_name (i := 4) (by simp) c.b.nd rfl (by first | exact Or.inl rfl | exact Or.inr rfl)) (fun _ _ _ _ _ => dts_nil) (fun _ _ _ _ _ => de_tup (da_cons (de_var (i := 4)) da_nil))) (de_lst (da_cons (de_var (i := 2)) da_nil)))))))) (dss_one (ds_ret (de_tuple c g.tuple (da_cons (de_sorted c g.sorted (da_cons (de_var (i := 1)) da_nil)) da_nil)))))
theorem sc__law_boxes : FnScope ["deck", "most", "many", "names", "turn"] ["deck", "most", "many"] (defScope s__law_boxes) := ⟨rfl, rfl, rfl, by decide +kernel, rfl, by decide +kernel, by decide +kernel⟩
def r__law_boxes (sp__law_draw : SpD) (sp__law_pick : SpD) : TDS := dSeq (dAsg (dIf (dTest (dBin oGt (dCall sp__law_draw (dCons (dVar 0) (dCons (dC (.int 3)) dNil))) (dC (.int 0)))) (dLst (dCons (dC (.str "a")) (dCons (dC (.str "b")) (dCons (dC (.str "c")) dNil)))) (dLst (dCons (dC (.str "box")) (dCons (dC (.str "k2")) (dCons (dC (.str "z0000009")) dNil))))) (dgName 3)) (dRet (dLc (dRange1 (dCons (dVar 1) dNil)) (dgName 4) dYes (dCall sp__law_pick (dCons (dVar 0) (dCons (dSl (dVar 3) doNone (doSome (dBin oAdd (dC (.int 1)) (dCall sp__law_draw (dCons (dVar 0) (dCons (dVar 2) dNil)))))) dNil))) [4]))
theorem c__law_boxes {k : Nat} {sp__law_draw : SpD} {sp__law_pick : SpD} {sp : SpD} (g : Gs mg K) (F : FnP K "_law_boxes" s__law_boxes f fd) (hg : mg "_law_boxes" = some (.ref f)) (c_law_draw : Cal P w K mg base k "_law_draw" sp__law_draw) (c_law_pick : Cal P w K mg base k "_law_pick" sp__law_pick) (len : ∀ ds G Q, sp ds G Q → ds.length = 3)
    (hr : ∀ ds G Q, sp ds G Q → r__law_boxes sp__law_draw sp__law_pick { nx := fun _ G' => Q .non G', rt := Q } (startD ["deck", "most", "many", "names", "turn"] ds) G) : Cal P w K mg base (k + 1) "_law_boxes" sp := by
  refine fn_D F sc__law_boxes hg (fun _ _ _ _ _ _ us hl => match us, hl with | [_, _, _], _ => rfl) len (fun cdv A outer s H hroom => ?_) hr
  have c : Kc (XF P w K mg base ["deck", "most", "many", "names", "turn"] "_law_boxes" (defScope s__law_boxes) f cdv A outer s H) k := ⟨rfl, sc__law_boxes.nd, hroom⟩
  exact dss_cons (ds_set (i := 3) c.nd rfl (by first | exact Or.inl rfl | exact Or.inr rfl) (de_ifExp (dt_c (ok_gt c) (de_call c_law_draw c.room rfl (da_cons (de_var (i := 0)) (da_cons de_int da_nil))) de_int) (de_lst (da_cons de_str (da_cons de_str (da_cons de_str da_nil)))) (de_lst (da_cons de_str (da_cons de_str (da_cons de_str da_nil)))))) (dss_one (ds_ret (de_lc (own := [("turn", 4)]) c.calm c.nd (di_range1 rfl g.range (da_cons (de_var (i := 1)) da_nil)) (blkOk_by (by rfl)) (fun _ _ _ _ _ => dv_name (i := 4) (by simp) c.b.nd rfl (by first | exact Or.inl rfl | exact Or.inr rfl)) (fun _ _ _ _ _ => dts_nil) (fun _ _ _ _ _ => de_call c_law_pick c.b.room rfl (da_cons (de_var (i := 0)) (da_cons (de_slice (de_var (i := 3)) do_none (do_some (de_add de_int (de_call c_law_draw c.b.room rfl (da_cons (de_var (i := 0)) (da_cons (de_var (i := 2)) da_nil)))))) da_nil))))))
theorem sc__law_in_columns : FnScope ["deck", "boxes", "many", "left", "columns", "it", "column"] ["deck", "boxes", "many"] (defScope s__law_in_columns) := ⟨rfl, rfl, rfl, by decide +kernel, rfl, by decide +kernel, by decide +kernel⟩
def r__law_in_columns (sp__law_pick : SpD) (sp__law_draw : SpD) : TDS := dSeq (dPar 3 4 (dCons (dB oListA (dCons (dVar 1) dNil)) (dCons (dLc (dRange1 (dCons (dVar 2) dNil)) (dgName 6) dYes (dLst dNil) [6]) dNil))) (dSeq (dWhile (dTest (dBin oNeA (dVar 3) (dLst dNil))) (dSeq (dAsg (dM (dVar 3) (dCons (dCall sp__law_draw (dCons (dVar 0) (dCons (dB oLen (dCons (dVar 3) dNil)) dNil))) dNil) oPopAt) (dgName 5)) (dDrop (dM (dCall sp__law_pick (dCons (dVar 0) (dCons (dVar 4) dNil))) (dCons (dVar 5) dNil) oAppend)))) (dRet (dB oTupOf (dCons (dB oSortedA (dCons (dLc (diSeq (dVar 4)) (dgName 6) (dTest (dBin oNeA (dVar 6) (dLst dNil))) (dB oTupOf (dCons (dVar 6) dNil)) [6]) dNil)) dNil))))
theorem c__law_in_columns {k : Nat} {sp__law_pick : SpD} {sp__law_draw : SpD} {sp : SpD} (g : Gs mg K) (F : FnP K "_law_in_columns" s__law_in_columns f fd) (hg : mg "_law_in_columns" = some (.ref f)) (c_law_pick : Cal P w K mg base k "_law_pick" sp__law_pick) (c_law_draw : Cal P w K mg base k "_law_draw" sp__law_draw) (len : ∀ ds G Q, sp ds G Q → ds.length = 3)
    (hr : ∀ ds G Q, sp ds G Q → r__law_in_columns sp__law_pick sp__law_draw { nx := fun _ G' => Q .non G', rt := Q } (startD ["deck", "boxes", "many", "left", "columns", "it", "column"] ds) G) : Cal P w K mg base (k + 1) "_law_in_columns" sp := by
  refine fn_D F sc__law_in_columns hg (fun _ _ _ _ _ _ us hl => match us, hl with | [_, _, _], _ => rfl) len (fun cdv A outer s H hroom => ?_) hr
  have c : Kc (XF P w K mg base ["deck", "boxes", "many", "left", "columns", "it", "column"] "_law_in_columns" (defScope s__law_in_columns) f cdv A outer s H) k := ⟨rfl, sc__law_in_columns.nd, hroom⟩
  have hp : PassesOwn (model P w) (XF P w K mg base ["deck", "boxes", "many", "left", "columns", "it", "column"] "_law_in_columns" (defScope s__law_in_columns) f cdv A outer s H).A (XF P w K mg base ["deck", "boxes", "many", "left", "columns", "it", "column"] "_law_in_columns" (defScope s__law_in_columns) f cdv A outer s H).env (XF P w K mg base ["deck", "boxes", "many", "left", "columns", "it", "column"] "_law_in_columns" (defScope s__law_in_columns) f cdv A outer s H).xe := PassesOwn.never
  exact dss_cons (ds_par (i := 3) (j := 4) c.calm c.nd rfl rfl (by decide) rfl rfl (da_cons (de_list c g.list (da_cons (de_var (i := 1)) da_nil)) (da_cons (de_lc (own := [("column", 6)]) c.calm c.nd (di_range1 rfl g.range (da_cons (de_var (i := 2)) da_nil)) (blkOk_by (by rfl)) (fun _ _ _ _ _ => dv_name (i := 6) (by simp) c.b.nd rfl (by first | exact Or.inl rfl | exact Or.inr rfl)) (fun _ _ _ _ _ => dts_nil) (fun _ _ _ _ _ => de_lst da_nil)) da_nil)) rfl) (dss_cons (ds_while hp (dt_c (ok_ne c) (de_var (i := 3)) (de_lst da_nil)) (dss_cons (ds_set (i := 5) c.nd rfl (by first | exact Or.inl rfl | exact Or.inr rfl) (de_popAt (de_var (i := 3)) (de_call c_law_draw c.room rfl (da_cons (de_var (i := 0)) (da_cons (de_len c g.len (da_cons (de_var (i := 3)) da_nil)) da_nil))))) (dss_one (ds_expr (de_append (de_call c_law_pick c.room rfl (da_cons (de_var (i := 0)) (da_cons (de_var (i := 4)) da_nil))) (de_var (i := 5))))))) (dss_one (ds_ret (de_tuple c g.tuple (da_cons (de_sorted c g.sorted (da_cons (de_lc (own := [("column", 6)]) c.calm c.nd (di_seq (de_var (i := 4))) (blkOk_by (by rfl)) (fun _ _ _ _ _ => dv_name (i := 6) (by simp) c.b.nd rfl (by first | exact Or.inl rfl | exact Or.inr rfl)) (fun _ _ _ _ _ => dts_one (dt_c (ok_ne c.b) (de_var (i := 6)) (de_lst da_nil))) (fun _ _ _ _ _ => de_tuple c.b g.tuple (da_cons (de_var (i := 6)) da_nil))) da_nil)) da_nil)))))
theorem sc__law_deck : FnScope ["script", "mixed", "cell"] ["script"] (defScope s__law_deck) := ⟨rfl, rfl, rfl, by decide +kernel, rfl, by decide +kernel, by decide +kernel⟩
def r__law_deck (K : PySem.W.Frag) : TDS := dSeq (dAsg (dC (.int 52149081)) (dgName 1)) (dSeq (dFor (diSeq (dOr (dSl (dVar 0) doNone (doSome (dC (.int 63)))) (dSlK K (dVar 0) doNone (doSome (dC (.int 63)))))) (dgName 2) (dAsg (dBin oMod (dB oInt (dCons (dBin oAdd (dBin oAdd (dBin oMul (dVar 1) (dC (.int 48271))) (dBin oMod (dB oInt (dCons (dVar 2) dNil)) (dC (.int 2147483629)))) (dC (.int 37))) dNil)) (dC (.int 2147483587))) (dgName 1))) (dRet (dDisp ["left", "mixed", "draws"] (dCons (dOr (dRevL (dLc (diSeq (dOr (dSl (dVar 0) doNone (doSome (dC (.int 63)))) (dSlK K (dVar 0) doNone (doSome (dC (.int 63)))))) (dgName 2) dYes (dB oInt (dCons (dVar 2) dNil)) [2])) (dRev (dLc (diSeq (dOr (dSl (dVar 0) doNone (doSome (dC (.int 63)))) (dSlK K (dVar 0) doNone (doSome (dC (.int 63)))))) (dgName 2) dYes (dB oInt (dCons (dVar 2) dNil)) [2]))) (dCons (dVar 1) (dCons (dC (.int 0)) dNil))))))
theorem c__law_deck {k : Nat} {sp : SpD} (g : Gs mg K) (F : FnP K "_law_deck" s__law_deck f fd) (hg : mg "_law_deck" = some (.ref f)) (len : ∀ ds G Q, sp ds G Q → ds.length = 1)
    (hr : ∀ ds G Q, sp ds G Q → r__law_deck K { nx := fun _ G' => Q .non G', rt := Q } (startD ["script", "mixed", "cell"] ds) G) : Cal P w K mg base (k + 1) "_law_deck" sp := by
  refine fn_D F sc__law_deck hg (fun _ _ _ _ _ _ us hl => match us, hl with | [_], _ => rfl) len (fun cdv A outer s H hroom => ?_) hr
  have c : Kc (XF P w K mg base ["script", "mixed", "cell"] "_law_deck" (defScope s__law_deck) f cdv A outer s H) k := ⟨rfl, sc__law_deck.nd, hroom⟩
  have hp : PassesOwn (model P w) (XF P w K mg base ["script", "mixed", "cell"] "_law_deck" (defScope s__law_deck) f cdv A outer s H).A (XF P w K mg base ["script", "mixed", "cell"] "_law_deck" (defScope s__law_deck) f cdv A outer s H).env (XF P w K mg base ["script", "mixed", "cell"] "_law_deck" (defScope s__law_deck) f cdv A outer s H).xe := PassesOwn.never
  exact dss_cons (ds_set (i := 1) c.nd rfl (by first | exact Or.inl rfl | exact Or.inr rfl) de_int) (dss_cons (ds_for hp c.calm (di_seq (de_two (de_slice (de_var (i := 0)) do_none (do_some de_int)) (de_slK (de_var (i := 0)) do_none (do_some de_int)))) (dg_name (i := 2) c.nd rfl (by first | exact Or.inl rfl | exact Or.inr rfl)) (dss_one (ds_set (i := 1) c.nd rfl (by first | exact Or.inl rfl | exact Or.inr rfl) (de_mod (de_intc c g.int (da_cons (de_add (de_add (de_mulI (de_var (i := 1)) de_int) (de_mod (de_intc c g.int (da_cons (de_var (i := 2)) da_nil)) de_int)) de_int) da_nil)) de_int)))) (dss_one (ds_ret (de_disp (dds_cons (de_two (de_revL (de_lc (own := [("cell", 2)]) c.calm c.nd (di_seq (de_two (de_slice (de_var (i := 0)) do_none (do_some de_int)) (de_slK (de_var (i := 0)) do_none (do_some de_int)))) (blkOk_by (by rfl)) (fun _ _ _ _ _ => dv_name (i := 2) (by simp) c.b.nd rfl (by first | exact Or.inl rfl | exact Or.inr rfl)) (fun _ _ _ _ _ => dts_nil) (fun _ _ _ _ _ => de_intc c.b g.int (da_cons (de_var (i := 2)) da_nil)))) (de_revT (de_lc (own := [("cell", 2)]) c.calm c.nd (di_seq (de_two (de_slice (de_var (i := 0)) do_none (do_some de_int)) (de_slK (de_var (i := 0)) do_none (do_some de_int)))) (blkOk_by (by rfl)) (fun _ _ _ _ _ => dv_name (i := 2) (by simp) c.b.nd rfl (by first | exact Or.inl rfl | exact Or.inr rfl)) (fun _ _ _ _ _ => dts_nil) (fun _ _ _ _ _ => de_intc c.b g.int (da_cons (de_var (i := 2)) da_nil))))) (dds_cons (de_var (i := 1)) (dds_cons de_int dds_nil)))))))
theorem sc__law_draw : FnScope ["deck", "many", "figure", "cell"] ["deck", "many"] (defScope s__law_draw) := ⟨rfl, rfl, rfl, by decide +kernel, rfl, by decide +kernel, by decide +kernel⟩
def r__law_draw : TDS := dSeq (dAsg (dBin oAdd (dBin oIxA (dVar 0) (dC (.str "draws"))) (dC (.int 1))) (dgSub (dVar 0) (dC (.str "draws")) oSetA)) (dSeq (dAsg (dBin oAdd (dBin oIxA (dVar 0) (dC (.str "mixed"))) (dBin oMul (dC (.int 61473)) (dBin oIxA (dVar 0) (dC (.str "draws"))))) (dgName 2)) (dSeq (dIfS (dTest (dBin oNeA (dBin oIxA (dVar 0) (dC (.str "left"))) (dLst dNil))) (dSeq (dAsg (dM0 (dBin oIxA (dVar 0) (dC (.str "left"))) oPop) (dgName 3)) (dSeq (dIfS (dTest (dBin oGe (dVar 3) (dBin oPow (dC (.int 10)) (dC (.int 18))))) (dSeq (dDrop (dM (dBin oIxA (dVar 0) (dC (.str "left"))) (dCons (dBin oFdiv (dVar 3) (dB oMax2 (dCons (dC (.int 2)) (dCons (dVar 1) dNil)))) dNil) oAppend)) (dRet (dBin oMod (dB oInt (dCons (dVar 3) dNil)) (dVar 1)))) dNext) (dAsg (dBin oAdd (dVar 2) (dBin oMod (dB oInt (dCons (dVar 3) dNil)) (dC (.int 2147483629)))) (dgName 2)))) dNext) (dSeq (dAsg (dBin oMod (dB oInt (dCons (dBin oAdd (dBin oMul (dVar 2) (dC (.int 39373))) (dC (.int 37))) dNil)) (dC (.int 2147483647))) (dgName 2)) (dSeq (dAsg (dBin oMod (dB oInt (dCons (dBin oAdd (dBin oAdd (dBin oMul (dVar 2) (dVar 2)) (dBin oMul (dC (.int 52713)) (dBin oIxA (dVar 0) (dC (.str "draws"))))) (dC (.int 37))) dNil)) (dC (.int 2147483587))) (dgName 2)) (dSeq (dAsg (dBin oMod (dB oInt (dCons (dBin oMul (dVar 2) (dC (.int 40692))) dNil)) (dC (.int 2147483563))) (dgName 2)) (dRet (dBin oMod (dB oInt (dCons (dBin oFdiv (dVar 2) (dC (.int 64))) dNil)) (dVar 1))))))))
theorem c__law_draw {k : Nat} {sp : SpD} (g : Gs mg K) (F : FnP K "_law_draw" s__law_draw f fd) (hg : mg "_law_draw" = some (.ref f)) (len : ∀ ds G Q, sp ds G Q → ds.length = 2)
    (hr : ∀ ds G Q, sp ds G Q → r__law_draw { nx := fun _ G' => Q .non G', rt := Q } (startD ["deck", "many", "figure", "cell"] ds) G) : Cal P w K mg base (k + 1) "_law_draw" sp := by
  refine fn_D F sc__law_draw hg (fun _ _ _ _ _ _ us hl => match us, hl with | [_, _], _ => rfl) len (fun cdv A outer s H hroom => ?_) hr
  have c : Kc (XF P w K mg base ["deck", "many", "figure", "cell"] "_law_draw" (defScope s__law_draw) f cdv A outer s H) k := ⟨rfl, sc__law_draw.nd, hroom⟩
  exact dss_cons (ds_asg (de_add (de_ixA c (de_var (i := 0)) de_str) de_int) (dg_subA c (de_var (i := 0)) de_str)) (dss_cons (ds_set (i := 2) c.nd rfl (by first | exact Or.inl rfl | exact Or.inr rfl) (de_add (de_ixA c (de_var (i := 0)) de_str) (de_mulI de_int (de_ixA c (de_var (i := 0)) de_str)))) (dss_cons (ds_if (dt_c (ok_ne c) (de_ixA c (de_var (i := 0)) de_str) (de_lst da_nil)) (dss_cons (ds_set (i := 3) c.nd rfl (by first | exact Or.inl rfl | exact Or.inr rfl) (de_pop (de_ixA c (de_var (i := 0)) de_str))) (dss_cons (ds_if (dt_c (ok_ge c) (de_var (i := 3)) (de_pow de_int de_int)) (dss_cons (ds_expr (de_append (de_ixA c (de_var (i := 0)) de_str) (de_fdiv (de_var (i := 3)) (de_max2 c g.max (da_cons de_int (da_cons (de_var (i := 1)) da_nil)))))) (dss_one (ds_ret (de_mod (de_intc c g.int (da_cons (de_var (i := 3)) da_nil)) (de_var (i := 1)))))) dss_nil) (dss_one (ds_set (i := 2) c.nd rfl (by first | exact Or.inl rfl | exact Or.inr rfl) (de_add (de_var (i := 2)) (de_mod (de_intc c g.int (da_cons (de_var (i := 3)) da_nil)) de_int)))))) dss_nil) (dss_cons (ds_set (i := 2) c.nd rfl (by first | exact Or.inl rfl | exact Or.inr rfl) (de_mod (de_intc c g.int (da_cons (de_add (de_mulI (de_var (i := 2)) de_int) de_int) da_nil)) de_int)) (dss_cons (ds_set (i := 2) c.nd rfl (by first | exact Or.inl rfl | exact Or.inr rfl) (de_mod (de_intc c g.int (da_cons (de_add (de_add (de_mulI (de_var (i := 2)) (de_var (i := 2))) (de_mulI de_int (de_ixA c (de_var (i := 0)) de_str))) de_int) da_nil)) de_int)) (dss_cons (ds_set (i := 2) c.nd rfl (by first | exact Or.inl rfl | exact Or.inr rfl) (de_mod (de_intc c g.int (da_cons (de_mulI (de_var (i := 2)) de_int) da_nil)) de_int)) (dss_one (ds_ret (de_mod (de_intc c g.int (da_cons (de_fdiv (de_var (i := 2)) de_int) da_nil)) (de_var (i := 1))))))))))
theorem sc__law_pick : FnScope ["deck", "some"] ["deck", "some"] (defScope s__law_pick) := ⟨rfl, rfl, rfl, by decide +kernel, rfl, by decide +kernel, by decide +kernel⟩
def r__law_pick (sp__law_draw : SpD) : TDS := dRet (dBin oIxA (dVar 1) (dCall sp__law_draw (dCons (dVar 0) (dCons (dB oLen (dCons (dVar 1) dNil)) dNil))))
theorem c__law_pick {k : Nat} {sp__law_draw : SpD} {sp : SpD} (g : Gs mg K) (F : FnP K "_law_pick" s__law_pick f fd) (hg : mg "_law_pick" = some (.ref f)) (c_law_draw : Cal P w K mg base k "_law_draw" sp__law_draw) (len : ∀ ds G Q, sp ds G Q → ds.length = 2)
    (hr : ∀ ds G Q, sp ds G Q → r__law_pick sp__law_draw { nx := fun _ G' => Q .non G', rt := Q } (startD ["deck", "some"] ds) G) : Cal P w K mg base (k + 1) "_law_pick" sp := by
  refine fn_D F sc__law_pick hg (fun _ _ _ _ _ _ us hl => match us, hl with | [_, _], _ => rfl) len (fun cdv A outer s H hroom => ?_) hr
  have c : Kc (XF P w K mg base ["deck", "some"] "_law_pick" (defScope s__law_pick) f cdv A outer s H) k := ⟨rfl, sc__law_pick.nd, hroom⟩
  exact dss_one (ds_ret (de_ixA c (de_var (i := 1)) (de_call c_law_draw c.room rfl (da_cons (de_var (i := 0)) (da_cons (de_len c g.len (da_cons (de_var (i := 1)) da_nil)) da_nil)))))
theorem sc__law_all_yards : FnScope ["boxes", "most", "rows", "turn", "found", "longer", "row", "left", "cuts", "k", "it", "columns", "here"] ["boxes", "most"] (defScope s__law_all_yards) := ⟨rfl, rfl, rfl, by decide +kernel, rfl, by decide +kernel, by decide +kernel⟩
def r__law_all_yards : TDS := dSeq (dAsg (dLst (dCons (dTup (dCons (dTup dNil) (dCons (dB oTupOf (dCons (dVar 0) dNil)) dNil))) dNil)) (dgName 2)) (dSeq (dFor (dRange1 (dCons (dB oLen (dCons (dVar 0) dNil)) dNil)) (dgName 3) (dSeq (dAsg (dOr dDNewN dDNew) (dgName 5)) (dSeq (dFor (diSeq (dB oListA (dCons (dVar 2) dNil))) (dgTup 2 (dgCons (dgName 6) (dgCons (dgName 7) dgNil))) (dFor (dEnum (dCons (dVar 7) dNil)) (dgTup 2 (dgCons (dgName 9) (dgCons (dgName 10) dgNil))) (dIfS (dTest (dBin oNinA (dVar 10) (dSl (dVar 7) doNone (doSome (dVar 9))))) (dAsg (dC (.bl true)) (dgSub (dVar 5) (dTup (dCons (dBin oAdd (dVar 6) (dTup (dCons (dVar 10) dNil))) (dCons (dBin oAdd (dSl (dVar 7) doNone (doSome (dVar 9))) (dSl (dVar 7) (doSome (dBin oAdd (dVar 9) (dC (.int 1)))) doNone)) dNil))) oSetA)) dNext))) (dAsg (dB oListA (dCons (dVar 5) dNil)) (dgName 2))))) (dSeq (dAsg (dOr dDNewN dDNew) (dgName 4)) (dSeq (dFor (diSeq (dVar 2)) (dgTup 2 (dgCons (dgName 6) (dgCons (dgName 7) dgNil))) (dFor (dRange1 (dCons (dBin oShl (dC (.int 1)) (dBin oSub (dB oLen (dCons (dVar 6) dNil)) (dC (.int 1)))) dNil)) (dgName 8) (dSeq (dPar 11 12 (dCons (dLst dNil) (dCons (dTup (dCons (dBin oIxA (dVar 6) (dC (.int 0))) dNil)) dNil))) (dSeq (dFor (dRange2 (dCons (dC (.int 1)) (dCons (dB oLen (dCons (dVar 6) dNil)) dNil))) (dgName 9) (dSeq (dIfS (dTest (dBin oEqA (dBin oAnd (dBin oShr (dVar 8) (dBin oSub (dVar 9) (dC (.int 1)))) (dC (.int 1))) (dC (.int 1)))) (dSeq (dDrop (dM (dVar 11) (dCons (dVar 12) dNil) oAppend)) (dAsg (dTup dNil) (dgName 12))) dNext) (dAsg (dBin oAdd (dVar 12) (dTup (dCons (dBin oIxA (dVar 6) (dVar 9)) dNil))) (dgName 12)))) (dIfS (dTest (dBin oLt (dB oLen (dCons (dVar 11) dNil)) (dVar 1))) (dAsg (dC (.bl true)) (dgSub (dVar 4) (dB oTupOf (dCons (dB oSortedA (dCons (dBin oAdd (dVar 11) (dLst (dCons (dVar 12) dNil))) dNil)) dNil)) oSetA)) dNext))))) (dRet (dB oSortedA (dCons (dVar 4) dNil))))))
theorem c__law_all_yards {k : Nat} {sp : SpD} (g : Gs mg K) (F : FnP K "_law_all_yards" s__law_all_yards f fd) (hg : mg "_law_all_yards" = some (.ref f)) (len : ∀ ds G Q, sp ds G Q → ds.length = 2)
    (hr : ∀ ds G Q, sp ds G Q → r__law_all_yards { nx := fun _ G' => Q .non G', rt := Q } (startD ["boxes", "most", "rows", "turn", "found", "longer", "row", "left", "cuts", "k", "it", "columns", "here"] ds) G) : Cal P w K mg base (k + 1) "_law_all_yards" sp := by
  refine fn_D F sc__law_all_yards hg (fun _ _ _ _ _ _ us hl => match us, hl with | [_, _], _ => rfl) len (fun cdv A outer s H hroom => ?_) hr
  have c : Kc (XF P w K mg base ["boxes", "most", "rows", "turn", "found", "longer", "row", "left", "cuts", "k", "it", "columns", "here"] "_law_all_yards" (defScope s__law_all_yards) f cdv A outer s H) k := ⟨rfl, sc__law_all_yards.nd, hroom⟩
  have hp : PassesOwn (model P w) (XF P w K mg base ["boxes", "most", "rows", "turn", "found", "longer", "row", "left", "cuts", "k", "it", "columns", "here"] "_law_all_yards" (defScope s__law_all_yards) f cdv A outer s H).A (XF P w K mg base ["boxes", "most", "rows", "turn", "found", "longer", "row", "left", "cuts", "k", "it", "columns", "here"] "_law_all_yards" (defScope s__law_all_yards) f cdv A outer s H).env (XF P w K mg base ["boxes", "most", "rows", "turn", "found", "longer", "row", "left", "cuts", "k", "it", "columns", "here"] "_law_all_yards" (defScope s__law_all_yards) f cdv A outer s H).xe := PassesOwn.never
  exact dss_cons (ds_set (i := 2) c.nd rfl (by first | exact Or.inl rfl | exact Or.inr rfl) (de_lst (da_cons (de_tup (da_cons (de_tup da_nil) (da_cons (de_tuple c g.tuple (da_cons (de_var (i := 0)) da_nil)) da_nil))) da_nil))) (dss_cons (ds_for hp c.calm (di_range1 rfl g.range (da_cons (de_len c g.len (da_cons (de_var (i := 0)) da_nil)) da_nil)) (dg_name (i := 3) c.nd rfl (by first | exact Or.inl rfl | exact Or.inr rfl)) (dss_cons (ds_set (i := 5) c.nd rfl (by first | exact Or.inl rfl | exact Or.inr rfl) (de_two de_dnewN de_dnew)) (dss_cons (ds_for hp c.calm (di_seq (de_list c g.list (da_cons (de_var (i := 2)) da_nil))) (dg_tup (n := 2) c.calm (dgs_cons (dg_name (i := 6) c.nd rfl (by first | exact Or.inl rfl | exact Or.inr rfl)) (dgs_cons (dg_name (i := 7) c.nd rfl (by first | exact Or.inl rfl | exact Or.inr rfl)) dgs_nil))) (dss_one (ds_for hp c.calm (di_enum rfl g.enumerate (da_cons (de_var (i := 7)) da_nil)) (dg_tup (n := 2) c.calm (dgs_cons (dg_name (i := 9) c.nd rfl (by first | exact Or.inl rfl | exact Or.inr rfl)) (dgs_cons (dg_name (i := 10) c.nd rfl (by first | exact Or.inl rfl | exact Or.inr rfl)) dgs_nil))) (dss_one (ds_if (dt_c (ok_nin c) (de_var (i := 10)) (de_slice (de_var (i := 7)) do_none (do_some (de_var (i := 9))))) (dss_one (ds_asg de_bl (dg_subA c (de_var (i := 5)) (de_tup (da_cons (de_add (de_var (i := 6)) (de_tup (da_cons (de_var (i := 10)) da_nil))) (da_cons (de_add (de_slice (de_var (i := 7)) do_none (do_some (de_var (i := 9)))) (de_slice (de_var (i := 7)) (do_some (de_add (de_var (i := 9)) de_int)) do_none)) da_nil)))))) dss_nil))))) (dss_one (ds_set (i := 2) c.nd rfl (by first | exact Or.inl rfl | exact Or.inr rfl) (de_list c g.list (da_cons (de_var (i := 5)) da_nil))))))) (dss_cons (ds_set (i := 4) c.nd rfl (by first | exact Or.inl rfl | exact Or.inr rfl) (de_two de_dnewN de_dnew)) (dss_cons (ds_for hp c.calm (di_seq (de_var (i := 2))) (dg_tup (n := 2) c.calm (dgs_cons (dg_name (i := 6) c.nd rfl (by first | exact Or.inl rfl | exact Or.inr rfl)) (dgs_cons (dg_name (i := 7) c.nd rfl (by first | exact Or.inl rfl | exact Or.inr rfl)) dgs_nil))) (dss_one (ds_for hp c.calm (di_range1 rfl g.range (da_cons (de_shl de_int (de_sub (de_len c g.len (da_cons (de_var (i := 6)) da_nil)) de_int)) da_nil)) (dg_name (i := 8) c.nd rfl (by first | exact Or.inl rfl | exact Or.inr rfl)) (dss_cons (ds_par (i := 11) (j := 12) c.calm c.nd rfl rfl (by decide) rfl rfl (da_cons (de_lst da_nil) (da_cons (de_tup (da_cons (de_ixA c (de_var (i := 6)) de_int) da_nil)) da_nil)) rfl) (dss_cons (ds_for hp c.calm (di_range2 rfl g.range (da_cons de_int (da_cons (de_len c g.len (da_cons (de_var (i := 6)) da_nil)) da_nil))) (dg_name (i := 9) c.nd rfl (by first | exact Or.inl rfl | exact Or.inr rfl)) (dss_cons (ds_if (dt_c (ok_eq c) (de_band (de_shr (de_var (i := 8)) (de_sub (de_var (i := 9)) de_int)) de_int) de_int) (dss_cons (ds_expr (de_append (de_var (i := 11)) (de_var (i := 12)))) (dss_one (ds_set (i := 12) c.nd rfl (by first | exact Or.inl rfl | exact Or.inr rfl) (de_tup da_nil)))) dss_nil) (dss_one (ds_set (i := 12) c.nd rfl (by first | exact Or.inl rfl | exact Or.inr rfl) (de_add (de_var (i := 12)) (de_tup (da_cons (de_ixA c (de_var (i := 6)) (de_var (i := 9))) da_nil))))))) (dss_one (ds_if (dt_c (ok_lt c) (de_len c g.len (da_cons (de_var (i := 11)) da_nil)) (de_var (i := 1))) (dss_one (ds_asg de_bl (dg_subA c (de_var (i := 4)) (de_tuple c g.tuple (da_cons (de_sorted c g.sorted (da_cons (de_add (de_var (i := 11)) (de_lst (da_cons (de_var (i := 12)) da_nil))) da_nil)) da_nil))))) dss_nil))))))) (dss_one (ds_ret (de_sorted c g.sorted (da_cons (de_var (i := 4)) da_nil)))))))
theorem sc__law_own_classes : FnScope ["boxes", "most", "lots", "yard", "lot"] ["boxes", "most"] (defScope s__law_own_classes) := ⟨rfl, rfl, rfl, by decide +kernel, rfl, by decide +kernel, by decide +kernel⟩
def r__law_own_classes (sp__law_all_yards : SpD) (sp__law_set_out : SpD) : TDS := dSeq (dAsg (dOr dDNewN dDNew) (dgName 2)) (dSeq (dFor (diSeq (dCall sp__law_all_yards (dCons (dVar 0) (dCons (dVar 1) dNil)))) (dgName 3) (dDrop (dM (dSetdef (dVar 2) (dCons (dCall sp__law_set_out (dCons (dVar 3) dNil)) (dCons (dLst dNil) dNil))) (dCons (dVar 3) dNil) oAppend))) (dRet (dB oTupOf (dCons (dB oSortedA (dCons (dLockE (dLc (dValsN (dVar 2)) (dgName 4) dYes (dB oTupOf (dCons (dB oSortedA (dCons (dVar 4) dNil)) dNil)) [4])) dNil)) dNil))))
theorem c__law_own_classes {k : Nat} {sp__law_all_yards : SpD} {sp__law_set_out : SpD} {sp : SpD} (g : Gs mg K) (F : FnP K "_law_own_classes" s__law_own_classes f fd) (hg : mg "_law_own_classes" = some (.ref f)) (c_law_all_yards : Cal P w K mg base k "_law_all_yards" sp__law_all_yards) (c_law_set_out : Cal P w K mg base k "_law_set_out" sp__law_set_out) (len : ∀ ds G Q, sp ds G Q → ds.length = 2)
    (hr : ∀ ds G Q, sp ds G Q → r__law_own_classes sp__law_all_yards sp__law_set_out { nx := fun _ G' => Q .non G', rt := Q } (startD ["boxes", "most", "lots", "yard", "lot"] ds) G) : Cal P w K mg base (k + 1) "_law_own_classes" sp := by
  refine fn_D F sc__law_own_classes hg (fun _ _ _ _ _ _ us hl => match us, hl with | [_, _], _ => rfl) len (fun cdv A outer s H hroom => ?_) hr
  have c : Kc (XF P w K mg base ["boxes", "most", "lots", "yard", "lot"] "_law_own_classes" (defScope s__law_own_classes) f cdv A outer s H) k := ⟨rfl, sc__law_own_classes.nd, hroom⟩
  have hp : PassesOwn (model P w) (XF P w K mg base ["boxes", "most", "lots", "yard", "lot"] "_law_own_classes" (defScope s__law_own_classes) f cdv A outer s H).A (XF P w K mg base ["boxes", "most", "lots", "yard", "lot"] "_law_own_classes" (defScope s__law_own_classes) f cdv A outer s H).env (XF P w K mg base ["boxes", "most", "lots", "yard", "lot"] "_law_own_classes" (defScope s__law_own_classes) f cdv A outer s H).xe := PassesOwn.never
  exact dss_cons (ds_set (i := 2) c.nd rfl (by first | exact Or.inl rfl | exact Or.inr rfl) (de_two de_dnewN de_dnew)) (dss_cons (ds_for hp c.calm (di_seq (de_call c_law_all_yards c.room rfl (da_cons (de_var (i := 0)) (da_cons (de_var (i := 1)) da_nil)))) (dg_name (i := 3) c.nd rfl (by first | exact Or.inl rfl | exact Or.inr rfl)) (dss_one (ds_expr (de_append (de_setdef c.u (de_var (i := 2)) (da_cons (de_call c_law_set_out c.room rfl (da_cons (de_var (i := 3)) da_nil)) (da_cons (de_lst da_nil) da_nil))) (de_var (i := 3)))))) (dss_one (ds_ret (de_tuple c g.tuple (da_cons (de_sorted c g.sorted (da_cons (de_lock (de_lc (own := [("lot", 4)]) c.calm c.nd (di_valsN (de_var (i := 2))) (blkOk_by (by rfl)) (fun _ _ _ _ _ => dv_name (i := 4) (by simp) c.b.nd rfl (by first | exact Or.inl rfl | exact Or.inr rfl)) (fun _ _ _ _ _ => dts_nil) (fun _ _ _ _ _ => de_tuple c.b g.tuple (da_cons (de_sorted c.b g.sorted (da_cons (de_var (i := 4)) da_nil)) da_nil)))) da_nil)) da_nil)))))
theorem sc_law : FnScope ["script", "deck", "many", "yard", "told", "turn", "rows", "boxes", "most", "due", "was", "bad", "odd", "one", "other", "near", "far"] ["script"] (defScope s_law) := ⟨rfl, rfl, rfl, by decide +kernel, rfl, by decide +kernel, by decide +kernel⟩
def r_law_1 (sp__law_same : SpD) (sp_like_classes : SpX) (sp__law_pick : SpD) (sp_judge_like : SpX) (sp__law_draw : SpD) (sp__law_own_classes : SpD) (sp__law_in_columns : SpD) (sp__law_boxes : SpD) (sp__law_deck : SpD) (PT : Addr) (qT : Str) (tk : Addr → Str → Prop) : TDS := dAsg (dCall sp__law_deck (dCons (dVar 0) dNil)) (dgName 1)
def r_law_2 (sp__law_same : SpD) (sp_like_classes : SpX) (sp__law_pick : SpD) (sp_judge_like : SpX) (sp__law_draw : SpD) (sp__law_own_classes : SpD) (sp__law_in_columns : SpD) (sp__law_boxes : SpD) (sp__law_deck : SpD) (PT : Addr) (qT : Str) (tk : Addr → Str → Prop) : TDS := dAsg (dIf (dTest (dBin oEqA (dCall sp__law_draw (dCons (dVar 1) (dCons (dC (.int 10)) dNil))) (dC (.int 0)))) (dC (.int 6)) (dBin oAdd (dC (.int 1)) (dCall sp__law_draw (dCons (dVar 1) (dCons (dC (.int 5)) dNil))))) (dgName 2)
def r_law_3 (sp__law_same : SpD) (sp_like_classes : SpX) (sp__law_pick : SpD) (sp_judge_like : SpX) (sp__law_draw : SpD) (sp__law_own_classes : SpD) (sp__law_in_columns : SpD) (sp__law_boxes : SpD) (sp__law_deck : SpD) (PT : Addr) (qT : Str) (tk : Addr → Str → Prop) : TDS := dPar 7 8 (dCons (dCall sp__law_boxes (dCons (dVar 1) (dCons (dVar 2) (dCons (dC (.int 3)) dNil)))) (dCons (dBin oAdd (dC (.int 1)) (dCall sp__law_draw (dCons (dVar 1) (dCons (dC (.int 6)) dNil)))) dNil))
def r_law_4 (sp__law_same : SpD) (sp_like_classes : SpX) (sp__law_pick : SpD) (sp_judge_like : SpX) (sp__law_draw : SpD) (sp__law_own_classes : SpD) (sp__law_in_columns : SpD) (sp__law_boxes : SpD) (sp__law_deck : SpD) (PT : Addr) (qT : Str) (tk : Addr → Str → Prop) : TDS := dAsg (dCall sp__law_in_columns (dCons (dVar 1) (dCons (dVar 7) (dCons (dBin oAdd (dC (.int 1)) (dCall sp__law_draw (dCons (dVar 1) (dCons (dC (.int 4)) dNil)))) dNil)))) (dgName 3)
def r_law_5 (sp__law_same : SpD) (sp_like_classes : SpX) (sp__law_pick : SpD) (sp_judge_like : SpX) (sp__law_draw : SpD) (sp__law_own_classes : SpD) (sp__law_in_columns : SpD) (sp__law_boxes : SpD) (sp__law_deck : SpD) (PT : Addr) (qT : Str) (tk : Addr → Str → Prop) : TDS := dPar 9 10 (dCons (dCall sp__law_own_classes (dCons (dB oSortedA (dCons (dVar 7) dNil)) (dCons (dVar 8) dNil))) (dCons (dB oRepr (dCons (dVar 3) dNil)) dNil))
def r_law_6 (sp__law_same : SpD) (sp_like_classes : SpX) (sp__law_pick : SpD) (sp_judge_like : SpX) (sp__law_draw : SpD) (sp__law_own_classes : SpD) (sp__law_in_columns : SpD) (sp__law_boxes : SpD) (sp__law_deck : SpD) (PT : Addr) (qT : Str) (tk : Addr → Str → Prop) : TDS := dAsg (dIf (dTest (dBin oEqA (dCall sp__law_draw (dCons (dVar 1) (dCons (dC (.int 2)) dNil))) (dC (.int 0)))) (dCall (calmX sp_like_classes) (dCons (dVar 3) (dCons (dVar 8) dNil))) (dCallR (calmX sp_like_classes) (dCons (dVar 8) (dCons (dVar 3) dNil)))) (dgName 4)
def r_law_7 (sp__law_same : SpD) (sp_like_classes : SpX) (sp__law_pick : SpD) (sp_judge_like : SpX) (sp__law_draw : SpD) (sp__law_own_classes : SpD) (sp__law_in_columns : SpD) (sp__law_boxes : SpD) (sp__law_deck : SpD) (PT : Addr) (qT : Str) (tk : Addr → Str → Prop) : TDS := dIfS (dOrT (dNotT (dTest (dCall sp__law_same (dCons (dVar 4) (dCons (dVar 9) dNil))))) (dTest (dBin oNeA (dB oRepr (dCons (dVar 3) dNil)) (dVar 10)))) (dRet (dC (.bl false))) dNext
def r_law_8 (sp__law_same : SpD) (sp_like_classes : SpX) (sp__law_pick : SpD) (sp_judge_like : SpX) (sp__law_draw : SpD) (sp__law_own_classes : SpD) (sp__law_in_columns : SpD) (sp__law_boxes : SpD) (sp__law_deck : SpD) (PT : Addr) (qT : Str) (tk : Addr → Str → Prop) : TDS := dFor (dRange1 (dCons (dC (.int 3)) dNil)) (dgName 5) (dSeq (dPar 13 14 (dCons (dCall sp__law_pick (dCons (dVar 1) (dCons (dVar 9) dNil))) (dCons (dCall sp__law_pick (dCons (dVar 1) (dCons (dVar 9) dNil))) dNil))) (dSeq (dPar 15 16 (dCons (dCall sp__law_pick (dCons (dVar 1) (dCons (dVar 13) dNil))) (dCons (dCall sp__law_pick (dCons (dVar 1) (dCons (dVar 14) dNil))) dNil))) (dIfS (dTest (dBin oNeA (dBin oEqA (dCall (calmX sp_judge_like) (dCons (dVar 15) (dCons (dVar 16) dNil))) (dTup (dCons (dC (.str "alike")) dNil))) (dBin oEqA (dVar 13) (dVar 14)))) (dRet (dC (.bl false))) dNext)))
def r_law_9 (sp__law_same : SpD) (sp_like_classes : SpX) (sp__law_pick : SpD) (sp_judge_like : SpX) (sp__law_draw : SpD) (sp__law_own_classes : SpD) (sp__law_in_columns : SpD) (sp__law_boxes : SpD) (sp__law_deck : SpD) (PT : Addr) (qT : Str) (tk : Addr → Str → Prop) : TDS := dAsg (dTup (dCons (dCall sp__law_pick (dCons (dVar 1) (dCons (dLst (dCons (dC .non) (dCons (dB oListA (dCons (dVar 3) dNil)) (dCons (dTup (dCons (dTup dNil) dNil)) (dCons (dTup (dCons (dC (.str "a")) dNil)) (dCons (dTup (dCons (dTup (dCons (dC (.str "A")) dNil)) dNil)) (dCons (dC (.int 0)) dNil))))))) dNil))) (dCons (dCall sp__law_pick (dCons (dVar 1) (dCons (dLst (dCons (dC (.int 0)) (dCons (dC (.int 7)) (dCons (dNeg (dC (.int 1))) (dCons (dC (.bl true)) (dCons (dC .non) (dCons (dC (.str "1")) (dCons (dTup (dCons (dC (.int 2)) dNil)) dNil)))))))) dNil))) dNil))) (dgTup 2 (dgCons (dgName 11) (dgCons (dgName 12) dgNil)))
def r_law_10 (sp__law_same : SpD) (sp_like_classes : SpX) (sp__law_pick : SpD) (sp_judge_like : SpX) (sp__law_draw : SpD) (sp__law_own_classes : SpD) (sp__law_in_columns : SpD) (sp__law_boxes : SpD) (sp__law_deck : SpD) (PT : Addr) (qT : Str) (tk : Addr → Str → Prop) : TDS := dAsg (dLst (dCons (dHeard PT qT "told" tk (dCallX sp_like_classes (dCons (dVar 11) (dCons (dVar 12) dNil)))) dNil)) (dgName 6)
def r_law_11 (sp__law_same : SpD) (sp_like_classes : SpX) (sp__law_pick : SpD) (sp_judge_like : SpX) (sp__law_draw : SpD) (sp__law_own_classes : SpD) (sp__law_in_columns : SpD) (sp__law_boxes : SpD) (sp__law_deck : SpD) (PT : Addr) (qT : Str) (tk : Addr → Str → Prop) : TDS := dDrop (dM (dVar 6) (dCons (dHeard PT qT "told" tk (dCallXR sp_like_classes (dCons (dVar 12) (dCons (dVar 3) dNil)))) dNil) oAppend)
def r_law_12 (sp__law_same : SpD) (sp_like_classes : SpX) (sp__law_pick : SpD) (sp_judge_like : SpX) (sp__law_draw : SpD) (sp__law_own_classes : SpD) (sp__law_in_columns : SpD) (sp__law_boxes : SpD) (sp__law_deck : SpD) (PT : Addr) (qT : Str) (tk : Addr → Str → Prop) : TDS := dRet (dCall sp__law_same (dCons (dVar 6) (dCons (dLst (dCons (dTup (dCons (dC (.str "yard")) (dCons (dVar 11) (dCons (dC (.bl true)) dNil)))) (dCons (dTup (dCons (dC (.str "many")) (dCons (dVar 12) (dCons (dC (.bl true)) dNil)))) dNil))) dNil)))
def r_law (sp__law_same : SpD) (sp_like_classes : SpX) (sp__law_pick : SpD) (sp_judge_like : SpX) (sp__law_draw : SpD) (sp__law_own_classes : SpD) (sp__law_in_columns : SpD) (sp__law_boxes : SpD) (sp__law_deck : SpD) (PT : Addr) (qT : Str) (tk : Addr → Str → Prop) : TDS := dSeq (r_law_1 sp__law_same sp_like_classes sp__law_pick sp_judge_like sp__law_draw sp__law_own_classes sp__law_in_columns sp__law_boxes sp__law_deck PT qT tk) (dSeq (r_law_2 sp__law_same sp_like_classes sp__law_pick sp_judge_like sp__law_draw sp__law_own_classes sp__law_in_columns sp__law_boxes sp__law_deck PT qT tk) (dSeq (r_law_3 sp__law_same sp_like_classes sp__law_pick sp_judge_like sp__law_draw sp__law_own_classes sp__law_in_columns sp__law_boxes sp__law_deck PT qT tk) (dSeq (r_law_4 sp__law_same sp_like_classes sp__law_pick sp_judge_like sp__law_draw sp__law_own_classes sp__law_in_columns sp__law_boxes sp__law_deck PT qT tk) (dSeq (r_law_5 sp__law_same sp_like_classes sp__law_pick sp_judge_like sp__law_draw sp__law_own_classes sp__law_in_columns sp__law_boxes sp__law_deck PT qT tk) (dSeq (r_law_6 sp__law_same sp_like_classes sp__law_pick sp_judge_like sp__law_draw sp__law_own_classes sp__law_in_columns sp__law_boxes sp__law_deck PT qT tk) (dSeq (r_law_7 sp__law_same sp_like_classes sp__law_pick sp_judge_like sp__law_draw sp__law_own_classes sp__law_in_columns sp__law_boxes sp__law_deck PT qT tk) (dSeq (r_law_8 sp__law_same sp_like_classes sp__law_pick sp_judge_like sp__law_draw sp__law_own_classes sp__law_in_columns sp__law_boxes sp__law_deck PT qT tk) (dSeq (r_law_9 sp__law_same sp_like_classes sp__law_pick sp_judge_like sp__law_draw sp__law_own_classes sp__law_in_columns sp__law_boxes sp__law_deck PT qT tk) (dSeq (r_law_10 sp__law_same sp_like_classes sp__law_pick sp_judge_like sp__law_draw sp__law_own_classes sp__law_in_columns sp__law_boxes sp__law_deck PT qT tk) (dSeq (r_law_11 sp__law_same sp_like_classes sp__law_pick sp_judge_like sp__law_draw sp__law_own_classes sp__law_in_columns sp__law_boxes sp__law_deck PT qT tk) (r_law_12 sp__law_same sp_like_classes sp__law_pick sp_judge_like sp__law_draw sp__law_own_classes sp__law_in_columns sp__law_boxes sp__law_deck PT qT tk)))))))))))
theorem d_law {k : Nat} {sp__law_same : SpD} {sp_like_classes : SpX} {sp__law_pick : SpD} {sp_judge_like : SpX} {sp__law_draw : SpD} {sp__law_own_classes : SpD} {sp__law_in_columns : SpD} {sp__law_boxes : SpD} {sp__law_deck : SpD} {co : Addr} {s : Shared} {H : Hp} (g : Gs mg K) (c_law_same : Cal P w K mg base k "_law_same" sp__law_same) (klike_classes : CalXR P w K mg base k "like_classes" ["most", "yard"] sp_like_classes) (clike_classes : CalX P w K mg base k "like_classes" sp_like_classes) (c_law_pick : Cal P w K mg base k "_law_pick" sp__law_pick) (cjudge_like : CalX P w K mg base k "judge_like" sp_judge_like) (c_law_draw : Cal P w K mg base k "_law_draw" sp__law_draw) (c_law_own_classes : Cal P w K mg base k "_law_own_classes" sp__law_own_classes) (c_law_in_columns : Cal P w K mg base k "_law_in_columns" sp__law_in_columns) (c_law_boxes : Cal P w K mg base k "_law_boxes" sp__law_boxes) (c_law_deck : Cal P w K mg base k "_law_deck" sp__law_deck) {PT : Addr} {tk : Addr → Str → Prop} (hd : HeardT (XF P w K mg base ["script", "deck", "many", "yard", "told", "turn", "rows", "boxes", "most", "due", "was", "bad", "odd", "one", "other", "near", "far"] "law" (defScope s_law) f (.ref co) callerA [] s H) k PT tk) (hroom : Room k (callerA.deeper (envOfC "law" (defScope s_law) s.heap.objs.size f (.ref co)))) : DSs (XF P w K mg base ["script", "deck", "many", "yard", "told", "turn", "rows", "boxes", "most", "due", "was", "bad", "odd", "one", "other", "near", "far"] "law" (defScope s_law) f (.ref co) callerA [] s H) (defBody s_law) (r_law sp__law_same sp_like_classes sp__law_pick sp_judge_like sp__law_draw sp__law_own_classes sp__law_in_columns sp__law_boxes sp__law_deck PT ((XF P w K mg base ["script", "deck", "many", "yard", "told", "turn", "rows", "boxes", "most", "due", "was", "bad", "odd", "one", "other", "near", "far"] "law" (defScope s_law) f (.ref co) callerA [] s H).env.qual ++ "<lambda>") tk) := by
  have c : Kc (XF P w K mg base ["script", "deck", "many", "yard", "told", "turn", "rows", "boxes", "most", "due", "was", "bad", "odd", "one", "other", "near", "far"] "law" (defScope s_law) f (.ref co) callerA [] s H) k := ⟨rfl, sc_law.nd, hroom⟩
  have hgd : (XF P w K mg base ["script", "deck", "many", "yard", "told", "turn", "rows", "boxes", "most", "due", "was", "bad", "odd", "one", "other", "near", "far"] "law" (defScope s_law) f (.ref co) callerA [] s H).A.guards = some [] := rfl
  have hp : PassesOwn (model P w) (XF P w K mg base ["script", "deck", "many", "yard", "told", "turn", "rows", "boxes", "most", "due", "was", "bad", "odd", "one", "other", "near", "far"] "law" (defScope s_law) f (.ref co) callerA [] s H).A (XF P w K mg base ["script", "deck", "many", "yard", "told", "turn", "rows", "boxes", "most", "due", "was", "bad", "odd", "one", "other", "near", "far"] "law" (defScope s_law) f (.ref co) callerA [] s H).env (XF P w K mg base ["script", "deck", "many", "yard", "told", "turn", "rows", "boxes", "most", "due", "was", "bad", "odd", "one", "other", "near", "far"] "law" (defScope s_law) f (.ref co) callerA [] s H).xe := PassesOwn.never
  exact dss_cons (ds_set (i := 1) c.nd rfl (by first | exact Or.inl rfl | exact Or.inr rfl) (de_call c_law_deck c.room rfl (da_cons (de_var (i := 0)) da_nil))) (dss_cons (ds_set (i := 2) c.nd rfl (by first | exact Or.inl rfl | exact Or.inr rfl) (de_ifExp (dt_c (ok_eq c) (de_call c_law_draw c.room rfl (da_cons (de_var (i := 1)) (da_cons de_int da_nil))) de_int) de_int (de_add de_int (de_call c_law_draw c.room rfl (da_cons (de_var (i := 1)) (da_cons de_int da_nil)))))) (dss_cons (ds_par (i := 7) (j := 8) c.calm c.nd rfl rfl (by decide) rfl rfl (da_cons (de_call c_law_boxes c.room rfl (da_cons (de_var (i := 1)) (da_cons (de_var (i := 2)) (da_cons de_int da_nil)))) (da_cons (de_add de_int (de_call c_law_draw c.room rfl (da_cons (de_var (i := 1)) (da_cons de_int da_nil)))) da_nil)) rfl) (dss_cons (ds_set (i := 3) c.nd rfl (by first | exact Or.inl rfl | exact Or.inr rfl) (de_call c_law_in_columns c.room rfl (da_cons (de_var (i := 1)) (da_cons (de_var (i := 7)) (da_cons (de_add de_int (de_call c_law_draw c.room rfl (da_cons (de_var (i := 1)) (da_cons de_int da_nil)))) da_nil))))) (dss_cons (ds_par (i := 9) (j := 10) c.calm c.nd rfl rfl (by decide) rfl rfl (da_cons (de_call c_law_own_classes c.room rfl (da_cons (de_sorted c g.sorted (da_cons (de_var (i := 7)) da_nil)) (da_cons (de_var (i := 8)) da_nil))) (da_cons (de_repr c hgd g.repr (da_cons (de_var (i := 3)) da_nil)) da_nil)) rfl) (dss_cons (ds_set (i := 4) c.nd rfl (by first | exact Or.inl rfl | exact Or.inr rfl) (de_ifExp (dt_c (ok_eq c) (de_call c_law_draw c.room rfl (da_cons (de_var (i := 1)) (da_cons de_int da_nil))) de_int) (de_call clike_classes.cal c.room rfl (da_cons (de_var (i := 3)) (da_cons (de_var (i := 8)) da_nil))) (de_callR klike_classes.cal c.room rfl (dk_cons (de_var (i := 8)) (dk_cons (de_var (i := 3)) dk_nil))))) (dss_cons (ds_if (dw_t (dw_or (dt_not (dt_val (de_call c_law_same c.room rfl (da_cons (de_var (i := 4)) (da_cons (de_var (i := 9)) da_nil))))) (dw_or1 (dt_c (ok_ne c) (de_repr c hgd g.repr (da_cons (de_var (i := 3)) da_nil)) (de_var (i := 10)))))) (dss_one (ds_ret de_bl)) dss_nil) (dss_cons (ds_for hp c.calm (di_range1 rfl g.range (da_cons de_int da_nil)) (dg_name (i := 5) c.nd rfl (by first | exact Or.inl rfl | exact Or.inr rfl)) (dss_cons (ds_par (i := 13) (j := 14) c.calm c.nd rfl rfl (by decide) rfl rfl (da_cons (de_call c_law_pick c.room rfl (da_cons (de_var (i := 1)) (da_cons (de_var (i := 9)) da_nil))) (da_cons (de_call c_law_pick c.room rfl (da_cons (de_var (i := 1)) (da_cons (de_var (i := 9)) da_nil))) da_nil)) rfl) (dss_cons (ds_par (i := 15) (j := 16) c.calm c.nd rfl rfl (by decide) rfl rfl (da_cons (de_call c_law_pick c.room rfl (da_cons (de_var (i := 1)) (da_cons (de_var (i := 13)) da_nil))) (da_cons (de_call c_law_pick c.room rfl (da_cons (de_var (i := 1)) (da_cons (de_var (i := 14)) da_nil))) da_nil)) rfl) (dss_one (ds_if (dt_c (ok_ne c) (de_c (ok_eq c) (de_call cjudge_like.cal c.room rfl (da_cons (de_var (i := 15)) (da_cons (de_var (i := 16)) da_nil))) (de_tup (da_cons de_str da_nil))) (de_c (ok_eq c) (de_var (i := 13)) (de_var (i := 14)))) (dss_one (ds_ret de_bl)) dss_nil))))) (dss_cons (ds_asg (de_tup (da_cons (de_call c_law_pick c.room rfl (da_cons (de_var (i := 1)) (da_cons (de_lst (da_cons de_non (da_cons (de_list c g.list (da_cons (de_var (i := 3)) da_nil)) (da_cons (de_tup (da_cons (de_tup da_nil) da_nil)) (da_cons (de_tup (da_cons de_str da_nil)) (da_cons (de_tup (da_cons (de_tup (da_cons de_str da_nil)) da_nil)) (da_cons de_int da_nil))))))) da_nil))) (da_cons (de_call c_law_pick c.room rfl (da_cons (de_var (i := 1)) (da_cons (de_lst (da_cons de_int (da_cons de_int (da_cons (de_neg de_int) (da_cons de_bl (da_cons de_non (da_cons de_str (da_cons (de_tup (da_cons de_int da_nil)) da_nil)))))))) da_nil))) da_nil))) (dg_tup (n := 2) c.calm (dgs_cons (dg_name (i := 11) c.nd rfl (by first | exact Or.inl rfl | exact Or.inr rfl)) (dgs_cons (dg_name (i := 12) c.nd rfl (by first | exact Or.inl rfl | exact Or.inr rfl)) dgs_nil)))) (dss_cons (ds_set (i := 6) c.nd rfl (by first | exact Or.inl rfl | exact Or.inr rfl) (de_lst (da_cons (hd _ _ _ _ _ _ _ (LamX.lamS_by (sc := defScope s_law) (by decide +kernel)) (by with_unfolding_all rfl) (fun _ _ _ _ _ => by with_unfolding_all rfl) (fun A outer s H E f c1 hr => de_callX clike_classes hr rfl (da_cons (de_var (i := 11)) (da_cons (de_var (i := 12)) da_nil)))) da_nil))) (dss_cons (ds_expr (de_append (de_var (i := 6)) (hd _ _ _ _ _ _ _ (LamX.lamS_by (sc := defScope s_law) (by decide +kernel)) (by with_unfolding_all rfl) (fun _ _ _ _ _ => by with_unfolding_all rfl) (fun A outer s H E f c1 hr => de_callXR klike_classes hr rfl (dk_cons (de_var (i := 12)) (dk_cons (de_var (i := 3)) dk_nil)))))) (dss_one (ds_ret (de_call c_law_same c.room rfl (da_cons (de_var (i := 6)) (da_cons (de_lst (da_cons (de_tup (da_cons de_str (da_cons (de_var (i := 11)) (da_cons de_bl da_nil)))) (da_cons (de_tup (da_cons de_str (da_cons (de_var (i := 12)) (da_cons de_bl da_nil)))) da_nil))) da_nil)))))))))))))))
end
end W81
end
section
set_option linter.all false
namespace Yard
variable {α : Type} [DecidableEq α]
/-- a column of one kind alone -/
def sgl : List α → Bool
  | [] => true
  | k :: r => r.all fun x => decide (x = k)
/-- a column set out -/
def so (c : List α) : List (List α) := if sgl c = true then c.map fun k => [k] else [c]
theorem sgl_cons {k : α} {r : List α} : sgl (k :: r) = true ↔ ∀ x ∈ r, x = k := by
  simp [sgl]
theorem sgl_one {k : α} : sgl [k] = true := rfl
theorem idx_ne {k x : α} {c : List α} (h : x ≠ k) : (x :: c).idxOf k = c.idxOf k + 1 := by
  have b : (x == k) = false := by simpa using h
  rw [List.idxOf_cons, b]
  rfl
theorem so_mem {c x : List α} (h : x ∈ so c) : (sgl c = true ∧ ∃ k ∈ c, x = [k]) ∨ (sgl c = false ∧ x = c) := by
  unfold so at h
  split at h
  · obtain ⟨k, hk, rfl⟩ := List.mem_map.mp h
    exact .inl ⟨by assumption, k, hk, rfl⟩
  · rename_i hn
    exact .inr ⟨by simpa using hn, List.mem_singleton.mp h⟩
/-- alike places, alike rests: alike columns -/
theorem erase_inj {k : α} : ∀ {c d : List α}, k ∈ c → k ∈ d → c.idxOf k = d.idxOf k → c.erase k = d.erase k → c = d
  | [], _, h, _, _, _ => by cases h
  | _, [], _, h, _, _ => by cases h
  | x :: c, y :: d, hc, hd, hi, he => by
    by_cases hx : x = k
    · subst hx
      by_cases hy : y = x
      · subst hy; simpa using he
      · rw [List.idxOf_cons_self, idx_ne hy] at hi; omega
    · by_cases hy : y = k
      · subst hy; rw [List.idxOf_cons_self, idx_ne hx] at hi; omega
      · rw [idx_ne hx, idx_ne hy] at hi
        rw [List.erase_cons_tail (by simpa using hx), List.erase_cons_tail (by simpa using hy)] at he
        injection he with h1 h2
        rw [h1, erase_inj (by simpa [Ne.symm hx] using hc) (by simpa [Ne.symm hy] using hd) (by omega) h2]
/-- both yards give alike digs and alike rests, once set out, for the kind k -/
structure One (S T : List (List α)) (k : α) (c d : List α) : Prop where
  cS : c ∈ S
  dT : d ∈ T
  kc : k ∈ c
  kd : k ∈ d
  dig : c.idxOf k = d.idxOf k
  rest : (S.erase c ++ so (c.erase k)).Perm (T.erase d ++ so (d.erase k))
theorem One.symm {S T : List (List α)} {k : α} {c d : List α} (h : One S T k c d) : One T S k d c := ⟨h.dT, h.cS, h.kd, h.kc, h.dig.symm, h.rest.symm⟩
def ib (p : Prop) [Decidable p] : Nat := if p then 1 else 0
theorem One.eq {S T : List (List α)} {k : α} {c d : List α} (h : One S T k c d) (x : List α) :
    S.count x + (so (c.erase k)).count x + ib (x = d) = T.count x + (so (d.erase k)).count x + ib (x = c) := by
  have e := h.rest.count_eq x
  rw [List.count_append, List.count_append, List.count_erase, List.count_erase] at e
  have h1 : x = c → 0 < S.count x := fun z => by rw [z]; exact List.count_pos_iff.mpr h.cS
  have h2 : x = d → 0 < T.count x := fun z => by rw [z]; exact List.count_pos_iff.mpr h.dT
  unfold ib
  by_cases e1 : x = c
  · by_cases e2 : x = d
    · have b1 : (c == x) = true := by simp [e1]
      have b2 : (d == x) = true := by simp [e2]
      have g1 := h1 e1
      have g2 := h2 e2
      rw [b1, b2] at e
      rw [if_pos e1, if_pos e2]
      simp at e
      omega
    · have := h1 e1
      rw [if_pos e1, if_neg e2]
      have b1 : (c == x) = true := by simp [e1]
      have b2 : (d == x) = false := by simpa using fun z => e2 z.symm
      rw [b1, b2] at e
      simp at e
      omega
  · have b1 : (c == x) = false := by simpa using fun z => e1 z.symm
    by_cases e2 : x = d
    · have := h2 e2
      rw [if_neg e1, if_pos e2]
      have b2 : (d == x) = true := by simp [e2]
      rw [b1, b2] at e
      simp at e
      omega
    · rw [if_neg e1, if_neg e2]
      have b2 : (d == x) = false := by simpa using fun z => e2 z.symm
      rw [b1, b2] at e
      simp at e
      omega
theorem ib_t {p : Prop} [Decidable p] (h : p) : ib p = 1 := if_pos h
theorem ib_f {p : Prop} [Decidable p] (h : ¬ p) : ib p = 0 := if_neg h
/-- set out -/
def Canon (S : List (List α)) : Prop := ∀ c ∈ S, c ≠ [] ∧ (sgl c = true → c.length = 1)
theorem so_len {c x : List α} {k : α} (hk : k ∈ c) (h : x ∈ so (c.erase k)) : x.length = 1 ∨ x.length + 1 = c.length := by
  rcases so_mem h with ⟨_, j, _, rfl⟩ | ⟨_, rfl⟩
  · exact .inl rfl
  · right; rw [List.length_erase_of_mem hk]; have := List.length_pos_of_mem hk; omega
theorem ne_so {S : List (List α)} (hS : Canon S) {c : List α} {k : α} (hc : c ∈ S) (hk : k ∈ c) : c ∉ so (c.erase k) := fun h => by
  rcases so_mem h with ⟨hs, j, hj, e⟩ | ⟨_, e⟩
  · rw [e] at hk hj; simp at hk; subst hk; simp at hj
  · have := List.length_erase_of_mem hk; rw [← e] at this; have := List.length_pos_of_mem hk; omega
/-- the column of the most boxes that comes unlike often: there is none -/
theorem core {S T : List (List α)} (hS : Canon S) (hT : Canon T) (hO : ∀ k, k ∈ S.flatten ∨ k ∈ T.flatten → ∃ c d, c ≠ d ∧ One S T k c d) {e : List α} (he : S.count e < T.count e)
    (hm : ∀ x, S.count x ≠ T.count x → x.length ≤ e.length) : False := by
  have eT : e ∈ T := List.count_pos_iff.mp (by omega)
  -- the columns that are chosen come unlike often
  have dif : ∀ {k c d}, c ≠ d → One S T k c d → S.count c ≠ T.count c := fun {k c d} ne o => by
    have q := o.eq c
    rw [ib_f ne, ib_t rfl, List.count_eq_zero.mpr (ne_so hS o.cS o.kc)] at q
    omega
  have one : 2 ≤ e.length := by
    by_cases hl : 2 ≤ e.length
    · exact hl
    · exfalso
      obtain ⟨k, hk⟩ : ∃ k, k ∈ e := List.exists_mem_of_ne_nil _ (hT e eT).1
      obtain ⟨c, d, ne, o⟩ := hO k (.inr (List.mem_flatten.mpr ⟨e, eT, hk⟩))
      have l1 := hm c (dif ne o)
      have l2 := hm d (fun z => by
        have q := o.eq d
        rw [ib_t rfl, ib_f (show ¬ d = c from fun z => ne z.symm), List.count_eq_zero.mpr (ne_so hT o.dT o.kd)] at q
        omega)
      have k1 := o.kc
      have k2 := o.kd
      obtain ⟨a, rfl⟩ : ∃ a, c = [a] := List.length_eq_one_iff.mp (by have := List.length_pos_of_mem k1; omega)
      obtain ⟨b, rfl⟩ : ∃ b, d = [b] := List.length_eq_one_iff.mp (by have := List.length_pos_of_mem k2; omega)
      simp at k1 k2
      subst k1; subst k2
      exact ne rfl
  -- it is the one that is chosen, whatever kind
  have ch : ∀ k, k ∈ e → ∃ c, c ≠ e ∧ c.length ≤ e.length ∧ One S T k c e := fun k hk => by
    obtain ⟨c, d, ne, o⟩ := hO k (.inr (List.mem_flatten.mpr ⟨e, eT, hk⟩))
    have l1 := hm c (dif ne o)
    have q := o.eq e
    by_cases hd : e = d
    · exact ⟨c, hd ▸ ne, l1, hd ▸ o⟩
    · exfalso
      rw [ib_f hd] at q
      have : 0 < (so (c.erase k)).count e := by omega
      rcases so_len o.kc (List.count_pos_iff.mp this) with h | h <;> omega
  cases e with
  | nil => simp at one
  | cons t r =>
    obtain ⟨ct, nt, lt, ot⟩ := ch t List.mem_cons_self
    have er : (t :: r).erase t = r := List.erase_cons_head _ _
    have mix : sgl (t :: r) = false := by
      cases q : sgl (t :: r) with
      | false => rfl
      | true => have := (hT _ eT).2 q; omega
    obtain ⟨u, hu, ne⟩ : ∃ u ∈ r, u ≠ t := by
      apply Classical.byContradiction
      intro h
      have : sgl (t :: r) = true := sgl_cons.mpr fun x hx => Classical.byContradiction fun n => h ⟨x, hx, n⟩
      rw [mix] at this; cases this
    obtain ⟨cu, nu, lu, ou⟩ := ch u (List.mem_cons_of_mem _ hu)
    have qt := ot.eq
    have qu := ou.eq
    rw [er] at qt
    have eu : (t :: r).erase u = t :: r.erase u := List.erase_cons_tail (by simpa using fun z => ne z.symm)
    rw [eu] at qu
    have iu : (t :: r).idxOf u = r.idxOf u + 1 := idx_ne (fun z => ne z.symm)
    cases hr : sgl r with
    | false =>
      have rne : r ≠ t :: r := fun z => by have := congrArg List.length z; simp at this
      have q1 := qt r
      rw [ib_f rne, show (so r).count r = 1 from by unfold so; rw [hr]; simp] at q1
      have z0 : (so (ct.erase t)).count r = 0 := List.count_eq_zero.mpr fun h => by
        rcases so_mem h with ⟨_, j, _, rfl⟩ | ⟨_, e⟩
        · rw [sgl_one] at hr; cases hr
        · exact nt (erase_inj ot.kc List.mem_cons_self ot.dig (by rw [er, ← e]))
      have q2 := qu r
      rw [ib_f rne] at q2
      have z1 : (so (t :: r.erase u)).count r = 0 := List.count_eq_zero.mpr fun h => by
        rcases so_mem h with ⟨_, j, _, rfl⟩ | ⟨_, e⟩
        · rw [sgl_one] at hr; cases hr
        · have := congrArg (List.count t) e
          rw [List.count_cons_self, List.count_erase_of_ne (fun z => ne z.symm)] at this
          omega
      by_cases hc : r = cu
      · have := ou.dig
        rw [← hc, iu] at this
        omega
      · rw [ib_f hc] at q2; omega
    | true =>
      have ru : ∀ x ∈ r, x = u := fun x hx => by
        cases r with
        | nil => cases hx
        | cons y s =>
          have h := sgl_cons.mp hr
          have hy : u = y := by rcases List.mem_cons.mp hu with h1 | h1; exact h1; exact h u h1
          rcases List.mem_cons.mp hx with h1 | h1
          · rw [h1, hy]
          · rw [h x h1, hy]
      have rr : r = List.replicate r.length u := List.eq_replicate_iff.mpr ⟨rfl, ru⟩
      have sor : (so r).count [u] = r.length := by
        unfold so
        rw [hr, if_pos rfl]
        have : ∀ l : List α, (∀ x ∈ l, x = u) → (l.map fun k => [k]).count [u] = l.length := fun l => by
          induction l with
          | nil => intro _; rfl
          | cons y l ih =>
            intro h
            rw [h y List.mem_cons_self, List.map_cons, List.count_cons_self, ih fun x hx => h x (List.mem_cons_of_mem _ hx)]
            rfl
        exact this r ru
      have n1 : [u] ≠ t :: r := fun z => by have := congrArg List.length z; simp only [List.length_cons, List.length_nil] at this one; omega
      have n2 : [u] ≠ ct := fun z => by have := ot.kc; rw [← z] at this; simp at this; exact ne this.symm
      have q1 := qt [u]
      rw [ib_f n1, ib_f n2, sor] at q1
      have lt' : (so (ct.erase t)).count [u] < r.length := by
        have pos := List.length_pos_of_mem hu
        apply Classical.byContradiction
        intro hge
        have hin : [u] ∈ so (ct.erase t) := List.count_pos_iff.mp (by omega)
        rcases so_mem hin with ⟨hs, j, hj, e⟩ | ⟨hs, e⟩
        · have ej : u = j := by simpa using e
          subst ej
          have all : ∀ x ∈ ct.erase t, x = u := fun x hx => by
            cases hq : ct.erase t with
            | nil => rw [hq] at hx; cases hx
            | cons y s =>
              rw [hq] at hs hx hj
              have h := sgl_cons.mp hs
              have hy : u = y := by rcases List.mem_cons.mp hj with h1 | h1; exact h1; exact h u h1
              rcases List.mem_cons.mp hx with h1 | h1
              · rw [h1, hy]
              · rw [h x h1, hy]
          have le : (so (ct.erase t)).count [u] ≤ (ct.erase t).length := by
            unfold so
            rw [hs, if_pos rfl]
            exact Nat.le_trans List.count_le_length (by simp)
          have l2 := List.length_erase_of_mem ot.kc
          simp only [List.length_cons] at lt
          have : (ct.erase t).length = r.length := by omega
          exact nt (erase_inj ot.kc List.mem_cons_self ot.dig (by rw [er, rr, ← this]; exact List.eq_replicate_iff.mpr ⟨rfl, all⟩))
        · rw [← e, sgl_one] at hs; cases hs
      have q2 := qu [u]
      rw [ib_f n1] at q2
      have z1 : (so (t :: r.erase u)).count [u] = 0 := List.count_eq_zero.mpr fun h => by
        rcases so_mem h with ⟨hs, j, hj, e⟩ | ⟨_, e⟩
        · have ej : u = j := by simpa using e
          subst ej
          rcases List.mem_cons.mp hj with h1 | h1
          · exact ne h1
          · exact ne (sgl_cons.mp hs u h1)
        · injection e with e1 _; exact ne e1
      by_cases hc : [u] = cu
      · have := ou.dig
        rw [← hc, iu] at this
        simp at this
      · rw [ib_f hc] at q2; omega
theorem most_of {β : Type} (f : β → Nat) : ∀ (l : List β), l ≠ [] → ∃ x ∈ l, ∀ y ∈ l, f y ≤ f x
  | [], h => (h rfl).elim
  | a :: l, _ => by
    by_cases hl : l = []
    · subst hl; exact ⟨a, List.mem_cons_self, fun y hy => by simp at hy; rw [hy]; exact Nat.le_refl _⟩
    · obtain ⟨x, hx, h⟩ := most_of f l hl
      by_cases hxa : f x ≤ f a
      · exact ⟨a, List.mem_cons_self, fun y hy => by
          rcases List.mem_cons.mp hy with e | e
          · rw [e]; exact Nat.le_refl _
          · exact Nat.le_trans (h y e) hxa⟩
      · exact ⟨x, List.mem_cons_of_mem _ hx, fun y hy => by
          rcases List.mem_cons.mp hy with e | e
          · rw [e]; omega
          · exact h y e⟩
/-- yards that are set out, of which each kind has alike digs and alike rests, are one -/
theorem uniq {S T : List (List α)} (hS : Canon S) (hT : Canon T) (hO : ∀ k, k ∈ S.flatten ∨ k ∈ T.flatten → ∃ c d, One S T k c d) : S.Perm T := by
  by_cases hn : ∀ k, k ∈ S.flatten ∨ k ∈ T.flatten → ∃ c d, c ≠ d ∧ One S T k c d
  · apply Classical.byContradiction
    intro np
    rw [List.perm_iff_count] at np
    obtain ⟨x, hx⟩ : ∃ x, S.count x ≠ T.count x := Classical.byContradiction fun h => np fun x => Classical.byContradiction fun n => h ⟨x, n⟩
    let L := (S ++ T).filter fun x => decide (S.count x ≠ T.count x)
    have inL : ∀ y, S.count y ≠ T.count y → y ∈ L := fun y hy => by
      refine List.mem_filter.mpr ⟨List.mem_append.mpr ?_, by simpa using hy⟩
      by_cases h : y ∈ S
      · exact .inl h
      · right
        rw [List.count_eq_zero.mpr h] at hy
        exact List.count_pos_iff.mp (by omega)
    obtain ⟨e, he, hm⟩ := most_of List.length L (List.ne_nil_of_mem (inL x hx))
    have hd : S.count e ≠ T.count e := by simpa using (List.mem_filter.mp he).2
    by_cases hlt : S.count e < T.count e
    · exact core hS hT hn hlt fun x hx => hm x (inL x hx)
    · refine core hT hS (fun k hk => ?_) (show T.count e < S.count e by omega) fun x hx => hm x (inL x fun z => hx z.symm)
      obtain ⟨c, d, ne, o⟩ := hn k hk.symm
      exact ⟨d, c, fun z => ne z.symm, o.symm⟩
  · obtain ⟨k, hk⟩ : ∃ k, ¬ (k ∈ S.flatten ∨ k ∈ T.flatten → ∃ c d, c ≠ d ∧ One S T k c d) := Classical.byContradiction fun h => hn fun k => Classical.byContradiction fun n => h ⟨k, n⟩
    have hk1 : k ∈ S.flatten ∨ k ∈ T.flatten := Classical.byContradiction fun n => hk fun h => (n h).elim
    obtain ⟨c, d, o⟩ := hO k hk1
    have : c = d := Classical.byContradiction fun n => hk fun _ => ⟨c, d, n, o⟩
    subst this
    rw [List.perm_iff_count]
    intro x
    have := o.eq x
    omega
end Yard
end
section
set_option Elab.async false
set_option linter.all false
set_option maxRecDepth 100000
set_option maxHeartbeats 4000000
/-! Looks: whole numbers, names, columns, yards. -/
namespace W81
open PySem PySem.Spec PyProof.Rows L2 DL

def isWholeD : D → Bool
  | .int i => decide (-1000000000000 ≤ i) && decide (i ≤ 1000000000000)
  | _ => false
def spWhole : SpD := fun ds G Q => ∃ x, ds = [x] ∧ Lk1 G x ∧ Q (.bl (isWholeD x)) G
theorem k_is_whole (ds : List D) (G : Gp) (Q : DK) (h : spWhole ds G Q) : r_is_whole { nx := fun _ G' => Q .non G', rt := Q } (startD ["thing"] ds) G := by
  obtain ⟨x, rfl, hx, q⟩ := h
  simp only [r_is_whole, dRet, dAndV, dNotV, dB, dCons, dNil, dC, dVar_iff, startD, List.map_cons, List.map_nil, List.cons_append, List.nil_append, List.getElem?_cons_zero]
  refine isi_of hx (kit_int hx) ⟨_, rfl, ?_⟩
  split
  · refine isi_of hx (kit_bool hx) ⟨_, rfl, _, rfl, ?_⟩
    cases x <;> simp_all [isIntD, isBlD, isWholeD, dChain, dNeg, dC, dVar_iff, oLeA, oLe, oI0]
    left
    split <;> simp_all
  · cases x <;> simp_all [isIntD, isWholeD]


def inZ (x z : Str) : Bool := !(Builtin.Str.occurrences z x 0 z.length 1).isEmpty
def sg (z : Str) : List Str := z.cps.toList.map fun c => ⟨#[c]⟩
def nameB (z : Str) : Bool := decide (1 ≤ z.length) && decide (z.length ≤ 8) && (match sg z with | s :: _ => inZ s "abcdefghijklmnopqrstuvwxyz" | [] => false) && (sg z).all fun s => inZ s "abcdefghijklmnopqrstuvwxyz0123456789"
def isNameD : D → Bool
  | .str z => nameB z
  | _ => false
def spName : SpD := fun ds G Q => ∃ x, ds = [x] ∧ Lk1 G x ∧ (∀ z, x = .str z → z.length ≤ sizeLine) ∧ ∀ G', Ext G G' → Q (.bl (isNameD x)) G'
theorem len_str {G : Gp} {z : Str} (h : z.length ≤ sizeLine) : lenD G (.str z) = some z.length := by
  show (if z.length ≤ sizeLine then some z.length else none) = some z.length
  rw [if_pos h]
theorem in_str {G : Gp} {x z : Str} {Q : DK} (q : Q (.bl (inZ x z)) G) : oInA (.str x) (.str z) G Q := .inl ⟨_, .str, q⟩
theorem k_is_name (ds : List D) (G : Gp) (Q : DK) (h : spName ds G Q) : r_is_name { nx := fun _ G' => Q .non G', rt := Q } (startD ["thing", "sign"] ds) G := by
  obtain ⟨x, rfl, hx, hz, q⟩ := h
  simp only [r_is_name, dSeq, dIfS, dOrT, dNotT, dTest, dRet, dAndV, dNotV, dB, dCons, dNil, dC, dVar_iff, startD, List.map_cons, List.map_nil, List.cons_append, List.nil_append, List.getElem?_cons_zero]
  refine isi_of hx (kit_str hx) ⟨_, rfl, ?_⟩
  by_cases hs : isStrD x = true
  · obtain ⟨z, rfl⟩ : ∃ z, x = .str z := by cases x <;> simp_all [isStrD]
    have hl := hz z rfl
    simp only [isStrD, Bool.not_true, Bool.false_eq_true, if_false, dChain, dC, dB, dCons, dNil, dVar_iff, List.getElem?_cons_zero]
    refine ⟨.str z, z.length, rfl, len_str hl, .inl ⟨1, z.length, rfl, rfl, _, rfl, ?_⟩⟩
    have fin : ∀ G', isNameD (.str z) = false → Ext G G' → Q (.bl false) G' := fun G' e x => e ▸ q G' x
    by_cases h1 : (1 : Int) ≤ (z.length : Int)
    · rw [decide_eq_true h1, if_pos rfl]
      refine .inl ⟨z.length, 8, rfl, rfl, _, rfl, ?_⟩
      by_cases h8 : (z.length : Int) ≤ 8
      · rw [decide_eq_true h8]
        simp only [Bool.not_true, Bool.false_eq_true, if_false, dNext]
        obtain ⟨c, r, hc⟩ : ∃ c r, z.cps.toList = c :: r := by
          cases e : z.cps.toList with
          | nil => exfalso; have : z.length = 0 := by show z.cps.size = 0; rw [← Array.length_toList, e]; rfl
                   omega
          | cons c r => exact ⟨c, r, rfl⟩
        have hsg : sg z = ⟨#[c]⟩ :: r.map fun c => ⟨#[c]⟩ := by unfold sg; rw [hc]; rfl
        simp only [dRet, dAndV, dBin, dC, dVar_iff, List.getElem?_cons_zero]
        refine .inl ⟨.str ⟨#[c]⟩, ?_, ?_⟩
        · show (if z.length ≤ sizeLine then (atI z.cps.toList 0).map fun c => D.str ⟨#[c]⟩ else none) = _
          rw [if_pos hl, hc]
          simp [atI, ixN]
        · refine in_str ⟨_, rfl, ?_⟩
          split
          · rename_i hy
            simp only [dB, dCons, dNil, dLc, diSeq, dVar_iff, List.getElem?_cons_zero]
            refine ⟨_, _, .str hl, mapD_ext (fun d => some (.bl (match d with | .str s => inZ s "abcdefghijklmnopqrstuvwxyz0123456789" | _ => false))) (fun _ _ => trivial) _ [] G _ (Ext.refl G) (fun d hd G1 R e1 hR => ?_) fun G' e' p hp => ?_⟩
            · obtain ⟨c', _, rfl⟩ := List.mem_map.mp hd
              have hR' := hR G1 (Ext.refl G1)
              simp only [turnD, dgName, dYes, dBin, dC, dVar_iff, wipeD, if_true]
              exact in_str hR'
            · refine ⟨p, (sg z).map fun s => inZ s "abcdefghijklmnopqrstuvwxyz0123456789", rfl, ?_, ?_⟩
              · rw [lst_up]
                simp [sg, List.filterMap_map, Function.comp_def]
              · have en : isNameD (.str z) = ((sg z).map fun s => inZ s "abcdefghijklmnopqrstuvwxyz0123456789").all id := by
                  show nameB z = _
                  unfold nameB
                  rw [show decide (1 ≤ z.length) = true from decide_eq_true (by omega), show decide (z.length ≤ 8) = true from decide_eq_true (by omega), hsg]
                  simp [hy, List.all_map, Function.comp_def]
                rw [← en]
                exact q _ (e'.trans (Ext.up hp))
          · rename_i hn
            exact fin _ (by show nameB z = false; unfold nameB; rw [hsg]; simp only [Bool.not_eq_true] at hn; simp [hn]) (Ext.refl G)
      · rw [decide_eq_false h8]
        simp only [Bool.not_false, if_true]
        exact fin _ (by unfold isNameD nameB; simp; omega) (Ext.refl G)
    · rw [decide_eq_false h1, if_neg Bool.false_ne_true]
      refine ⟨_, rfl, ?_⟩
      simp only [Bool.not_false, if_true]
      exact fin _ (by unfold isNameD nameB; simp; omega) (Ext.refl G)
  · have e : isStrD x = false := by simpa using hs
    simp only [e, Bool.not_false, if_true]
    have := q G (Ext.refl G)
    cases x <;> simp_all [isNameD, isStrD]


def isBetD (a b : Int) : D → Bool
  | .int i => decide (-1000000000000 ≤ i) && decide (i ≤ 1000000000000) && decide (a ≤ i) && decide (i ≤ b)
  | _ => false
def spBet : SpD := fun ds G Q => ∃ x a b, ds = [x, .int a, .int b] ∧ Lk1 G x ∧ Q (.bl (isBetD a b x)) G
theorem k_is_between (ds : List D) (G : Gp) (Q : DK) (h : spBet ds G Q) : r_is_between spWhole { nx := fun _ G' => Q .non G', rt := Q } (startD ["thing", "least", "most"] ds) G := by
  obtain ⟨x, a, b, rfl, hx, q⟩ := h
  simp only [r_is_between, dRet, dAndV, dCall, dCons, dNil, dC, dVar_iff, startD, List.map_cons, List.map_nil, List.cons_append, List.nil_append, List.getElem?_cons_zero]
  refine ⟨x, rfl, hx, _, rfl, ?_⟩
  cases x <;> simp_all [isWholeD, isBetD, dChain, dVar_iff, oLeA, oLe, oI0]
  split
  · left
    split <;> simp_all
  · rename_i i h
    have e : (decide (-1000000000000 ≤ i) && decide (i ≤ 1000000000000) && decide (a ≤ i) && decide (i ≤ b)) = false := by
      by_cases h1 : -1000000000000 ≤ i
      · by_cases h2 : i ≤ 1000000000000
        · exact absurd ⟨h1, h2⟩ h
        · simp [h2]
      · simp [h1]
    rw [e] at q
    exact q


def allTup (pr : D → Bool) : D → Bool
  | .tup l => l.all pr
  | _ => false
def spTupOf (S : Str → SpD → Prop) : SpD := fun ds G Q => ∃ x nm, ds = [x, .gl nm] ∧ Lk1 G x ∧ ∃ (pr : D → Bool) (sp' : SpD), S nm sp' ∧ (∀ l, x = .tup l → ∀ d ∈ l, ∀ G1 R, Ext G G1 → (∀ G2, Ext G1 G2 → R (.bl (pr d)) G2) → sp' [d] G1 R) ∧ ∀ G', Ext G G' → Q (.bl (allTup pr x)) G'
theorem k_is_tuple_of (S : Str → SpD → Prop) (ds : List D) (G : Gp) (Q : DK) (h : spTupOf S ds G Q) : r_is_tuple_of S { nx := fun _ G' => Q .non G', rt := Q } (startD ["thing", "look", "part"] ds) G := by
  obtain ⟨x, nm, rfl, hx, pr, sp', hS, hd, q⟩ := h
  simp only [r_is_tuple_of, dRet, dAndV, dB, dCons, dNil, dC, dVar_iff, startD, List.map_cons, List.map_nil, List.cons_append, List.nil_append, List.getElem?_cons_zero]
  refine isi_of hx (kit_tuple hx) ⟨_, rfl, ?_⟩
  split
  · rename_i ht
    obtain ⟨l, rfl⟩ : ∃ l, x = .tup l := by cases x <;> simp_all [isTupD]
    simp only [dLc, diSeq, dVar_iff, List.getElem?_cons_zero]
    refine ⟨_, _, .tup, mapD_ext (fun d => some (.bl (pr d))) (fun _ _ => trivial) _ [] G _ (Ext.refl G) (fun d hm G1 R e1 hR => ?_) fun G' e' p hp => ?_⟩
    · simp only [turnD, dgName, dYes, dCallL, dCons, dNil, dVar_iff, wipeD, if_true]
      exact ⟨nm, sp', rfl, hS, hd l rfl d hm G1 _ e1 fun G2 e2 => hR G2 e2⟩
    · refine ⟨p, l.map pr, rfl, ?_, ?_⟩
      · rw [lst_up]
        simp [List.filterMap_eq_map, Function.comp_def]
      · have e : allTup pr (.tup l) = (l.map pr).all id := by simp [allTup, List.all_map, Function.comp_def]
        rw [← e]
        exact q _ (e'.trans (Ext.up hp))
  · have := q G (Ext.refl G)
    cases x <;> simp_all [isTupD, allTup]


def isColD : D → Bool
  | .tup l => decide (0 < l.length) && decide (l.length ≤ 400) && l.all isNameD
  | _ => false
/-- what is_name can look at -/
def Lk0 (G : Gp) (x : D) : Prop := Lk1 G x ∧ ∀ z, x = .str z → z.length ≤ sizeLine
theorem Lk0.ext {G G' : Gp} (x : Ext G G') {d : D} (h : Lk0 G d) : Lk0 G' d := ⟨h.1.ext x, h.2⟩
def spCol : SpD := fun ds G Q => ∃ x, ds = [x] ∧ Lk1 G x ∧ (∀ l, x = .tup l → ∀ d ∈ l, Lk0 G d) ∧ ∀ G', Ext G G' → Q (.bl (isColD x)) G'
/-- the looks that are handed on -/
inductive Looks : Str → SpD → Prop where
  | name : Looks "is_name" spName
  | col : Looks "is_column" spCol
inductive Looks0 : Str → SpD → Prop where
  | name : Looks0 "is_name" spName
theorem k_is_column (ds : List D) (G : Gp) (Q : DK) (h : spCol ds G Q) : r_is_column (spTupOf Looks0) { nx := fun _ G' => Q .non G', rt := Q } (startD ["thing"] ds) G := by
  obtain ⟨x, rfl, hx, hl, q⟩ := h
  simp only [r_is_column, dRet, dAndV, dB, dCall, dCons, dNil, dC, dVar_iff, startD, List.map_cons, List.map_nil, List.cons_append, List.nil_append, List.getElem?_cons_zero]
  refine isi_of hx (kit_tuple hx) ⟨_, rfl, ?_⟩
  split
  · rename_i ht
    obtain ⟨l, rfl⟩ : ∃ l, x = .tup l := by cases x <;> simp_all [isTupD]
    simp only [dChain, dC, dB, dCons, dNil, dVar_iff, List.getElem?_cons_zero]
    refine ⟨.tup l, l.length, rfl, rfl, .inl ⟨0, l.length, rfl, rfl, _, rfl, ?_⟩⟩
    by_cases h1 : (0 : Int) < (l.length : Int)
    · rw [decide_eq_true h1, if_pos rfl]
      refine .inl ⟨l.length, 400, rfl, rfl, _, rfl, ?_⟩
      by_cases h2 : (l.length : Int) ≤ 400
      · rw [decide_eq_true h2, if_pos rfl]
        refine ⟨.tup l, "is_name", rfl, hx, isNameD, spName, .name, fun l' e d hd G1 R e1 hR => ?_, fun G' e' => ?_⟩
        · obtain ⟨a, b⟩ := (hl l' e d hd).ext e1
          exact ⟨d, rfl, a, b, hR⟩
        · have e : isColD (.tup l) = allTup isNameD (.tup l) := by
            show (decide (0 < l.length) && decide (l.length ≤ 400) && l.all isNameD) = l.all isNameD
            rw [show decide (0 < l.length) = true from decide_eq_true (by omega), show decide (l.length ≤ 400) = true from decide_eq_true (by omega)]
            rfl
          rw [← e]
          exact q G' e'
      · rw [decide_eq_false h2, if_neg Bool.false_ne_true]
        have e : isColD (.tup l) = false := by
          show (decide (0 < l.length) && decide (l.length ≤ 400) && l.all isNameD) = false
          rw [show decide (l.length ≤ 400) = false from decide_eq_false (by omega)]
          simp
        exact e ▸ q G (Ext.refl G)
    · rw [decide_eq_false h1, if_neg Bool.false_ne_true]
      refine ⟨_, rfl, ?_⟩
      rw [if_neg Bool.false_ne_true]
      have e : isColD (.tup l) = false := by
        show (decide (0 < l.length) && decide (l.length ≤ 400) && l.all isNameD) = false
        rw [show decide (0 < l.length) = false from decide_eq_false (by omega)]
        rfl
      exact e ▸ q G (Ext.refl G)
  · have := q G (Ext.refl G)
    cases x <;> simp_all [isTupD, isColD]


/-! ### columns, yards -/
abbrev Col := List Str
abbrev Yrd := List Col
abbrev dCol (c : Col) : D := enc c
abbrev dYrd (y : Yrd) : D := enc y
theorem col_of : ∀ {d : D}, isColD d = true → ∃ c : Col, d = dCol c ∧ c ≠ []
  | .tup l, h => by
    have h' : (decide (0 < l.length) && decide (l.length ≤ 400) && l.all isNameD) = true := h
    rw [Bool.and_eq_true, Bool.and_eq_true, List.all_eq_true] at h'
    obtain ⟨⟨h1, _⟩, h3⟩ := h'
    have key : ∀ l : List D, (∀ d ∈ l, isNameD d = true) → ∃ c : Col, l = c.map D.str := by
      intro l
      induction l with
      | nil => exact fun _ => ⟨[], rfl⟩
      | cons d r ih =>
        intro h
        obtain ⟨c, rfl⟩ := ih fun e he => h e (List.mem_cons_of_mem _ he)
        have hd := h d List.mem_cons_self
        cases d <;> first | cases hd | skip
        exact ⟨_ :: c, rfl⟩
    obtain ⟨c, rfl⟩ := key l h3
    exact ⟨c, rfl, fun z => by subst z; simp at h1⟩
theorem cols_of : ∀ {l : List D}, l.all isColD = true → ∃ y : Yrd, l = y.map dCol
  | [], _ => ⟨[], rfl⟩
  | d :: r, h => by
    rw [List.all_cons, Bool.and_eq_true] at h
    obtain ⟨c, rfl, _⟩ := col_of h.1
    obtain ⟨y, rfl⟩ := cols_of h.2
    exact ⟨c :: y, rfl⟩
/-! ### is_yard_value -/
def pairLe : D → Bool
  | .tup [a, b] => leD a b
  | _ => false
def isYrdD : D → Bool
  | .tup l => decide (l.length ≤ 400) && l.all isColD && (zipD l (l.drop 1)).all pairLe
  | _ => false
/-- what is_yard_value can look at -/
def Lk2 (G : Gp) (x : D) : Prop := Lk1 G x ∧ ∀ l, x = .tup l → ∀ d ∈ l, Lk1 G d ∧ ∀ m, d = .tup m → ∀ e ∈ m, Lk0 G e
def spYv : SpD := fun ds G Q => ∃ x, ds = [x] ∧ Lk2 G x ∧ ∀ G', Ext G G' → Q (.bl (isYrdD x)) G'

end W81
end
section
set_option Elab.async false
set_option linter.all false
set_option maxRecDepth 100000
set_option maxHeartbeats 4000000
namespace W81
open PySem PySem.Spec PyProof.Rows L2 DL
local macro_rules | `(tactic| walk_at "rd") => `(tactic| simp only [dSeq, dIfS, dOrT, dAndT, dNotT, dTest, dRet, dRetN, dAndV, dOrV, dNotV, dB, dCons, dNil, dC, dVar_iff, dBin, dChain, dAsg, dgName, dgTup, dgCons, dgNil, dCall, dTup, dLst, dNeg, dIf, dDrop, dNext, dYes, turnD, wipeD, dLc, diSeq, dSl, doSome, doNone, dM, dM0, dFor, dOr, dgSub, dIsN, dNotN, dEnum, dRange1, dRange2, dZip, dListZip, dAug, dPar, dRev, dRevL, dZipY, dKeysN, dValsN, dItemsN, dLockE, dLockS, dSetdef, dDNewN, dDNew, dDispN, dDisp, dCallX, dDropX, dRetX, dAsgX, dRaise, dCallL, dCallR, dCallXR, dLc2, turn2, startD, List.map_cons, List.map_nil, List.cons_append, List.nil_append, List.length_cons, List.length_nil, Nat.reduceAdd, Nat.reduceSub, Nat.zero_add, List.reduceReplicate, List.replicate_succ, List.replicate_zero, List.getElem?_cons_zero, List.getElem?_cons_succ, List.set_cons_zero, List.set_cons_succ, if_true])
theorem k_is_yard_value (ds : List D) (G : Gp) (Q : DK) (h : spYv ds G Q) : r_is_yard_value (spTupOf Looks) { nx := fun _ G' => Q .non G', rt := Q } (startD ["thing", "one", "other"] ds) G := by
  obtain ⟨x, rfl, ⟨hx, hl⟩, q⟩ := h
  unfold r_is_yard_value
  walk_at "rd"
  refine isi_tuple hx ⟨_, rfl, ?_⟩
  split
  · rename_i ht
    have e : isYrdD x = false := by cases x <;> simp_all [isTupD, isYrdD]
    exact e ▸ q G (Ext.refl G)
  · rename_i ht
    obtain ⟨l, rfl⟩ : ∃ l, x = .tup l := by cases x <;> simp_all [isTupD]
    refine len_t (gt_i ⟨_, rfl, ?_⟩)
    split
    · rename_i h4
      have e : isYrdD (.tup l) = false := by
        have : ¬ l.length ≤ 400 := by simp only [decide_eq_true_eq] at h4; omega
        show (decide (l.length ≤ 400) && l.all isColD && _) = false
        rw [decide_eq_false this]
        rfl
      exact e ▸ q G (Ext.refl G)
    · rename_i h4
      have h4 : l.length ≤ 400 := by simp only [decide_eq_true_eq] at h4; omega
      refine ⟨.tup l, "is_column", rfl, hx, isColD, spCol, .col, fun l' e d hd G1 R e1 hR => ?_, fun G' e' => ⟨_, rfl, ?_⟩⟩
      · obtain ⟨a, b⟩ := hl l' e d hd
        exact ⟨d, rfl, a.ext e1, fun m em x hx => (b m em x hx).ext e1, hR⟩
      · split
        · rename_i hn
          have e : isYrdD (.tup l) = false := by
            show (decide (l.length ≤ 400) && l.all isColD && _) = false
            have : l.all isColD = false := by
              show allTup isColD (.tup l) = false
              simpa using hn
            rw [this, Bool.and_false]
            rfl
          exact e ▸ q G' e'
        · rename_i hn
          have hc : l.all isColD = true := by
            show allTup isColD (.tup l) = true
            simpa using hn
          obtain ⟨y, rfl⟩ := cols_of hc
          refine ⟨1, rfl, .tup (.inr ⟨_, _, rfl, ?_⟩)⟩
          have hz := zipD_map (f := dCol) (g := dCol) y (y.drop 1)
          rw [show DL.cutD (y.map dCol) (some 1) none = (y.map dCol).drop 1 from cut_tail _ 1, ← List.map_drop, hz]
          refine mapD_map (fun p : Col × Col => some (leE p.1 p.2)) D.bl (fun _ _ => trivial) (fun p _ G1 R e1 hR => ?_) fun G2 e2 p hp => ?_
          · walk_at "rd"
            exact ⟨_, rfl, rfl, _, _, rfl, _, _, rfl, rfl, leA_enc p.1 p.2 (hR G1 (Ext.refl G1))⟩
          · refine all_l ((y.zip (y.drop 1)).map fun p => leE p.1 p.2) (by rw [lst_up]; simp [List.filterMap_eq_map]) ?_
            have e : isYrdD (.tup (y.map dCol)) = ((y.zip (y.drop 1)).map fun p => leE p.1 p.2).all id := by
              show (decide ((y.map dCol).length ≤ 400) && (y.map dCol).all isColD && (zipD (y.map dCol) ((y.map dCol).drop 1)).all pairLe) = _
              rw [decide_eq_true h4, hc, ← List.map_drop, hz]
              simp only [List.all_map, Bool.true_and]
              rfl
            rw [← e]
            exact q _ ((e'.trans e2).put (e'.trans e2 |>.fresh hp))
def spNeed (C : Addr) : SpX := fun ds G Q QX => ∃ x, ds = [x] ∧ Lk2 G x ∧ ∀ G', Ext G G' → if isYrdD x = true then Q .non G' else QX C x G'
theorem k_need_yard (C : Addr) (ds : List D) (G : Gp) (Q : DK) (QX : XQ) (h : spNeed C ds G Q QX) : r_need_yard spYv C { nx := fun _ G' => Q .non G', rt := Q, ex := QX } (startD ["yard"] ds) G := by
  obtain ⟨x, rfl, hx, q⟩ := h
  unfold r_need_yard
  walk_at "rd"
  refine ⟨x, rfl, hx, fun G' e' => ⟨_, rfl, ?_⟩⟩
  have := q G' e'
  by_cases h : isYrdD x = true
  · rw [if_pos h] at this
    rw [if_neg (by simp [h])]
    exact this
  · rw [if_neg h] at this
    rw [if_pos (by simpa using h)]
    exact this
end W81
end
section
set_option Elab.async false
set_option linter.all false
set_option maxRecDepth 100000
set_option maxHeartbeats 4000000
namespace W81
open PySem PySem.Spec PyProof.Rows L2 DL
local macro_rules | `(tactic| walk_at "rd") => `(tactic| simp only [dSeq, dIfS, dOrT, dAndT, dNotT, dTest, dRet, dRetN, dAndV, dOrV, dNotV, dB, dCons, dNil, dC, dVar_iff, dBin, dChain, dAsg, dgName, dgTup, dgCons, dgNil, dCall, dTup, dLst, dNeg, dIf, dDrop, dNext, dYes, turnD, wipeD, dLc, diSeq, dSl, doSome, doNone, dM, dM0, dFor, dOr, dgSub, dIsN, dNotN, dEnum, dRange1, dRange2, dZip, dListZip, dAug, dPar, dRev, dRevL, dZipY, dKeysN, dValsN, dItemsN, dLockE, dLockS, dSetdef, dDNewN, dDNew, dDispN, dDisp, dCallX, dDropX, dRetX, dAsgX, dRaise, dCallL, dCallR, dCallXR, dLc2, turn2, startD, List.map_cons, List.map_nil, List.cons_append, List.nil_append, List.length_cons, List.length_nil, Nat.reduceAdd, Nat.reduceSub, Nat.zero_add, List.reduceReplicate, List.replicate_succ, List.replicate_zero, List.getElem?_cons_zero, List.getElem?_cons_succ, List.set_cons_zero, List.set_cons_succ, if_true])
theorem sgl_all (c : Col) : Yard.sgl c = (c.map fun k => decide (k = c.headD ⟨#[]⟩)).all id := by
  cases c with
  | nil => rfl
  | cons k r => simp [Yard.sgl, List.all_map, Function.comp_def]
theorem at0 {β : Type} {f : β → D} {x : β} {r : List β} : atI ((x :: r).map f) 0 = some (f x) := atI_nat (j := 0) rfl
/-! ### is_single, depth_of -/
def spSgl : SpD := fun ds G Q => ∃ c : Col, ds = [enc c] ∧ ∀ G', Ext G G' → Q (.bl (Yard.sgl c)) G'
theorem k_is_single (ds : List D) (G : Gp) (Q : DK) (h : spSgl ds G Q) : r_is_single { nx := fun _ G' => Q .non G', rt := Q } (startD ["column", "kind"] ds) G := by
  obtain ⟨c, rfl, q⟩ := h
  unfold r_is_single
  walk_at "rd"
  refine ⟨_, _, .tup, mapD_map (fun k : Str => some (decide (k = c.headD ⟨#[]⟩))) D.bl (fun _ _ => trivial) (fun k hk G1 R e1 hR => ?_) fun G' e' p hp => ?_⟩
  · walk_at "rd"
    cases c with
    | nil => cases hk
    | cons a r => exact ix_t at0 (eqE k a (hR G1 (Ext.refl G1)))
  · refine all_l (c.map fun k => decide (k = c.headD ⟨#[]⟩)) (by rw [lst_up]; simp [List.filterMap_eq_map]) ?_
    rw [← sgl_all]
    exact q _ (e'.put (e'.fresh hp))
def depI (k : Str) (c : Col) : Int := if k ∈ c then (c.reverse.idxOf k : Nat) else -1
def spDep : SpD := fun ds G Q => ∃ (c : Col) (k : Str), ds = [enc c, .str k] ∧ ∀ G', Ext G G' → Q (.int (depI k c)) G'
theorem k_depth_of (ds : List D) (G : Gp) (Q : DK) (h : spDep ds G Q) : r_depth_of { nx := fun _ G' => Q .non G', rt := Q } (startD ["column", "kind", "digs", "one"] ds) G := by
  obtain ⟨c, k, rfl, q⟩ := h
  unfold r_depth_of
  walk_at "rd"
  refine .inr ⟨_, rfl, .inr ⟨_, rfl, ?_⟩⟩
  rw [← List.map_reverse, enumD_zip]
  refine forD_map (fun pre env G1 => G1 = G ∧ (∃ o1 o2, env = [some (enc c), some (.str k), o1, o2]) ∧ ∀ p ∈ pre, p.1 ≠ k) ⟨rfl, ⟨_, _, rfl⟩, fun p hp => by cases hp⟩ (fun env G1 ⟨hG, ⟨o1, o2, he⟩, hn⟩ => ⟨trivial, ?_⟩) fun pre x post env G1 K hl ⟨hG, ⟨o1, o2, he⟩, hn⟩ hK => ⟨trivial, ?_⟩
  · subst hG; subst he
    refine ⟨1, rfl, ?_⟩
    have := q G1 (Ext.refl G1)
    unfold depI at this
    rw [if_neg (fun hk => ?_)] at this
    · exact this
    · have : k ∈ (c.reverse.zipIdx 0).map (·.1) := by rw [List.zipIdx_map_fst]; simpa using hk
      obtain ⟨p, hp, e⟩ := List.mem_map.mp this
      exact hn p hp e
  · subst hG; subst he
    walk_at "rd"
    refine ⟨_, rfl, rfl, _, _, rfl, _, _, rfl, rfl, ?_⟩
    refine eqE x.1 k ⟨_, rfl, ?_⟩
    split
    · rename_i hx
      have hx : x.1 = k := by simpa using hx
      obtain ⟨h1, h2⟩ := zipIdx_split hl
      have := q G1 (Ext.refl G1)
      have hm : k ∈ c := by
        rw [← List.mem_reverse, h2, ← hx]; simp
      unfold depI at this
      rw [if_pos hm] at this
      have e : c.reverse.idxOf k = x.2 := by
        rw [h1, h2, List.idxOf_append, if_neg (fun hz => by
          obtain ⟨p, hp, e⟩ := List.mem_map.mp hz
          exact hn p hp e), ← hx, List.idxOf_cons_self, List.length_map]
      rw [e] at this
      exact this
    · rename_i hx
      refine hK _ _ ⟨rfl, ⟨_, _, rfl⟩, fun p hp => ?_⟩
      rcases List.mem_append.mp hp with h | h
      · exact hn p h
      · rw [List.mem_singleton] at h; subst h; simpa using hx
/-! ### laid, kinds_in, set_out_in -/
def laidC (cols : List Col) : Yrd := srt (cols.filter fun c => decide (c ≠ []))
def spLaid : SpD := fun ds G Q => ∃ (a : Addr) (cols : List Col), ds = [.ref a] ∧ lstAt G a = some (cols.map enc) ∧ ∀ G', Ext G G' → Q (enc (laidC cols)) G'
theorem k_laid (ds : List D) (G : Gp) (Q : DK) (h : spLaid ds G Q) : r_laid { nx := fun _ G' => Q .non G', rt := Q } (startD ["columns", "column"] ds) G := by
  obtain ⟨a, cols, rfl, ha, q⟩ := h
  unfold r_laid
  walk_at "rd"
  refine ⟨_, _, .lst ha, mapD_map (fun c : Col => if c = [] then none else some c) (enc (α := Col)) (fun G' e => e.lst ha) (fun c _ G1 R e1 hR => ?_) fun G' e' p hp => ?_⟩
  · walk_at "rd"
    refine len_t (gt_i ⟨_, rfl, ?_⟩)
    have hR' := hR G1 (Ext.refl G1)
    cases c with
    | nil =>
      rw [if_neg (by simp)]
      simpa using hR'
    | cons x r =>
      rw [if_pos (by simp)]
      rw [if_neg (by simp)] at hR'
      exact tup_t hR'
  · rw [filterMap_if]
    have e2 := e'.put (o := .lst ((cols.filter fun c => decide (c ≠ [])).map enc)) (e'.fresh hp)
    refine sorted_l lst_up (srt1_lists fun c hc => by simpa using (List.mem_filter.mp hc).2) fun p2 hp2 => tup_l lst_up (q _ (e2.put (e2.fresh hp2)))
def spKinds : SpD := fun ds G Q => ∃ y : Yrd, ds = [enc y] ∧ y.flatten.length ≤ 100000 ∧ ∀ G' p, Ext G G' → G p = none → G' p = some (.lst ((srt y.flatten).map D.str)) → Q (.ref p) G'
theorem k_kinds_in (ds : List D) (G : Gp) (Q : DK) (h : spKinds ds G Q) : r_kinds_in { nx := fun _ G' => Q .non G', rt := Q } (startD ["yard", "column", "kind"] ds) G := by
  obtain ⟨y, rfl, hy, q⟩ := h
  unfold r_kinds_in
  walk_at "rd"
  refine ⟨_, _, .tup, outD_map 100000 (fun c : Col => c) D.str (fun _ _ => trivial) (fun c _ acc G1 R e1 hl hR => ?_) (by simpa [List.flatMap_id'] using hy) fun G' e' p hp => ?_⟩
  · walk_at "rd"
    refine ⟨_, _, .tup, ?_⟩
    refine mapB_map acc (fun k : Str => k) D.str (fun _ _ => trivial) (fun k _ G2 R2 e2 hR2 => ?_) (sz_of (by omega)) fun G' e' => by simpa using hR G' e'
    walk_at "rd"
    exact hR2 G2 (Ext.refl G2)
  · have e2 := e'.put (o := .lst ((y.flatMap fun c => c).map D.str)) (e'.fresh hp)
    refine sorted_l (l := y.flatten) (by rw [lst_up, List.flatMap_id']; rfl) srt1_strs fun p2 hp2 => ?_
    exact q _ p2 (e2.put (e2.fresh hp2)) (e2.fresh hp2) up_same
def setOut (y : Yrd) : Yrd := srt (y.flatMap Yard.so)
theorem so_ne {c x : Col} (hc : c ≠ []) (h : x ∈ Yard.so c) : x ≠ [] := by
  rcases Yard.so_mem h with ⟨_, k, _, rfl⟩ | ⟨_, rfl⟩
  · simp
  · exact hc
theorem so_size (c : Col) : (Yard.so c).length ≤ c.length + 1 := by
  unfold Yard.so
  split <;> simp
theorem so_sum {y : Yrd} (hy : ∀ c ∈ y, c ≠ []) : (y.flatMap Yard.so).length ≤ y.flatten.length := by
  induction y with
  | nil => simp
  | cons c y ih =>
    rw [List.flatMap_cons, List.length_append, List.flatten_cons, List.length_append]
    have := ih fun c h => hy c (List.mem_cons_of_mem _ h)
    have h2 : (Yard.so c).length ≤ c.length := by
      unfold Yard.so
      split
      · simp
      · have := List.length_pos_iff.mpr (hy c List.mem_cons_self)
        simp; omega
    omega
/-- yards of the sizes that are met here -/
def OkY (y : Yrd) : Prop := (∀ c ∈ y, c ≠ []) ∧ y.flatten.length ≤ 100000
def spOut : SpD := fun ds G Q => ∃ y : Yrd, ds = [enc y] ∧ OkY y ∧ ∀ G', Ext G G' → Q (enc (setOut y)) G'
theorem pre_so {y pre post : Yrd} {x : Col} (h : OkY y) (hl : y = pre ++ x :: post) : (pre.flatMap Yard.so).length + (Yard.so x).length ≤ 100000 := by
  have := so_sum h.1
  rw [hl, List.flatMap_append, List.flatMap_cons] at this
  have h2 := h.2
  rw [hl] at h2
  simp only [List.length_append] at this
  omega
theorem k_set_out_in (ds : List D) (G : Gp) (Q : DK) (h : spOut ds G Q) : r_set_out_in spSgl { nx := fun _ G' => Q .non G', rt := Q } (startD ["yard", "found", "column", "kind"] ds) G := by
  obtain ⟨y, rfl, hy, q⟩ := h
  unfold r_set_out_in
  walk_at "rd"
  refine ⟨sz_of (by decide), fun p hp => ⟨_, _, .tup, ?_⟩⟩
  refine forD_map (fun pre env G1 => (∃ o1 o2, env = [some (enc y), some (.ref p), o1, o2]) ∧ Ext G G1 ∧ G1 p = some (.lst ((pre.flatMap Yard.so).map enc))) ⟨⟨_, _, rfl⟩, Ext.up hp, up_same⟩ (fun env G1 ⟨⟨o1, o2, he⟩, e1, h1⟩ => ⟨trivial, ?_⟩) fun pre x post env G1 K hl ⟨⟨o1, o2, he⟩, e1, h1⟩ hK => ⟨trivial, ?_⟩
  · subst he
    walk_at "rd"
    refine sorted_l (lstAt_lst h1) (srt1_lists fun c hc => ?_) fun p2 hp2 => tup_l lst_up (q _ (e1.put (e1.fresh hp2)))
    obtain ⟨d, hd, hc⟩ := List.mem_flatMap.mp hc
    exact so_ne (hy.1 d hd) hc
  · subst he
    have sz := pre_so hy hl
    walk_at "rd"
    refine ⟨x, rfl, fun G2 e2 => ⟨_, rfl, ?_⟩⟩
    have h2 := e2 p _ h1
    have nx : ∀ G3 o, Ext G2 G3 → G3 p = some (.lst ((pre.flatMap Yard.so).map enc)) → K [some (enc y), some (.ref p), some (enc x), o] (up G3 p (.lst ((pre.flatMap Yard.so).map enc ++ (Yard.so x).map enc))) := fun G3 o e3 h3 =>
      hK _ _ ⟨⟨_, _, rfl⟩, (e1.trans (e2.trans e3)).put hp, by rw [up_same]; simp⟩
    cases hs : Yard.sgl x with
    | true =>
      rw [if_pos rfl]
      refine ⟨some_lst (lstAt_lst h2), _, _, .tup, mapD_map (fun k : Str => some [k]) (enc (α := Col)) (fun _ _ => trivial) (fun k _ G3 R e3 hR => ?_) fun G' e' p2 hp2 => ?_⟩
      · walk_at "rd"
        exact ⟨sz_of (by decide), hR G3 (Ext.refl G3)⟩
      · have ex : (x.filterMap fun k : Str => some [k]) = Yard.so x := by unfold Yard.so; rw [hs, if_pos rfl]; simp [List.filterMap_eq_map]
        rw [ex]
        have h3 := e' p _ h2
        refine ext_m (up_get h3 hp2) up_same (by rw [List.length_map, List.length_map]; omega) ?_
        exact nx _ _ (e'.put (e'.fresh hp2)) (up_get h3 hp2)
    | false =>
      rw [if_neg Bool.false_ne_true]
      refine ⟨some_lst (lstAt_lst h2), app_m h2 (by rw [List.length_map]; omega) ?_⟩
      have ex : Yard.so x = [x] := by unfold Yard.so; rw [hs, if_neg Bool.false_ne_true]
      have := nx G2 o2 (Ext.refl G2) h2
      rw [ex] at this
      exact this
theorem k__law_set_out (ds : List D) (G : Gp) (Q : DK) (h : spOut ds G Q) : r__law_set_out { nx := fun _ G' => Q .non G', rt := Q } (startD ["yard", "found", "column", "is_one", "one"] ds) G := by
  obtain ⟨y, rfl, hy, q⟩ := h
  unfold r__law_set_out
  walk_at "rd"
  refine ⟨sz_of (by decide), fun p hp => ⟨_, _, .tup, ?_⟩⟩
  refine forD_map (fun pre env G1 => (∃ o1 o2 o3, env = [some (enc y), some (.ref p), o1, o2, o3]) ∧ Ext G G1 ∧ G1 p = some (.lst ((pre.flatMap Yard.so).map enc))) ⟨⟨_, _, _, rfl⟩, Ext.up hp, up_same⟩ (fun env G1 ⟨⟨o1, o2, o3, he⟩, e1, h1⟩ => ⟨trivial, ?_⟩) fun pre x post env G1 K hl ⟨⟨o1, o2, o3, he⟩, e1, h1⟩ hK => ⟨trivial, ?_⟩
  · subst he
    walk_at "rd"
    refine sorted_l (lstAt_lst h1) (srt1_lists fun c hc => ?_) fun p2 hp2 => tup_l lst_up (q _ (e1.put (e1.fresh hp2)))
    obtain ⟨d, hd, hc⟩ := List.mem_flatMap.mp hc
    exact so_ne (hy.1 d hd) hc
  · subst he
    have sz := pre_so hy hl
    walk_at "rd"
    refine ⟨_, _, .tup, mapD_map (fun k : Str => if k = x.headD ⟨#[]⟩ then none else some k) D.str (fun _ _ => trivial) (fun k hk G2 R e2 hR => ?_) fun G2 e2 p2 hp2 => ?_⟩
    · walk_at "rd"
      cases x with
      | nil => cases hk
      | cons a r =>
        refine ix_t at0 (neE k a ⟨_, rfl, ?_⟩)
        have := hR G2 (Ext.refl G2)
        by_cases h : k = a
        · subst h; simpa using this
        · have e : (if k = (a :: r).headD ⟨#[]⟩ then none else some k) = some k := if_neg h
          rw [e] at this
          rw [decide_eq_false h]
          exact this
    · have ex : (x.filterMap fun k : Str => if k = x.headD ⟨#[]⟩ then none else some k).isEmpty = Yard.sgl x := by
        rw [sgl_all, filterMap_if]
        have : ∀ (a : Str) (l : List Str), (l.filter fun c => decide (¬ c = a)).isEmpty = (l.map fun k => decide (k = a)).all id := by
          intro a l
          induction l with
          | nil => rfl
          | cons b r ih =>
            rw [List.filter_cons, List.map_cons, List.all_cons]
            by_cases h : b = a
            · simpa [h] using ih
            · simp [h]
        exact this _ x
      refine ⟨sz_of (by decide), fun p3 hp3 => ?_⟩
      have g2 := e2 p _ h1
      have g3 := up_get (u := .lst ((x.filterMap fun k : Str => if k = x.headD ⟨#[]⟩ then none else some k).map D.str)) g2 hp2
      have e3 := e2.put (o := .lst ((x.filterMap fun k : Str => if k = x.headD ⟨#[]⟩ then none else some k).map D.str)) (e2.fresh hp2)
      refine eq_nil (lst_up_ne hp3) lst_up ?_
      rw [List.isEmpty_map, ex]
      have g4 := up_get (u := .lst []) g3 hp3
      have e4 := e3.put (o := .lst []) (e3.fresh hp3)
      refine ⟨some_lst (lstAt_lst g4), _, rfl, ?_⟩
      have nx : ∀ G5 o1 o2 o3, Ext _ G5 → G5 p = some (.lst ((pre.flatMap Yard.so).map enc)) → K [some (enc y), some (.ref p), o1, o2, o3] (up G5 p (.lst ((pre.flatMap Yard.so).map enc ++ (Yard.so x).map enc))) := fun G5 o1 o2 o3 e5 h5 =>
        hK _ _ ⟨⟨_, _, _, rfl⟩, (e1.trans (e4.trans e5)).put hp, by rw [up_same]; simp⟩
      cases hs : Yard.sgl x with
      | true =>
        rw [if_pos rfl]
        refine ⟨_, _, .tup, mapD_map (fun k : Str => some [k]) (enc (α := Col)) (fun _ _ => trivial) (fun k _ G5 R e5 hR => ?_) fun G5 e5 p5 hp5 => ?_⟩
        · walk_at "rd"
          exact ⟨sz_of (by decide), hR G5 (Ext.refl G5)⟩
        · have ex : (x.filterMap fun k : Str => some [k]) = Yard.so x := by unfold Yard.so; rw [hs, if_pos rfl]; simp [List.filterMap_eq_map]
          rw [ex]
          have h5 := up_get (u := .lst ((Yard.so x).map enc)) (e5 p _ g4) hp5
          refine ext_m h5 up_same (by rw [List.length_map, List.length_map]; omega) ?_
          exact nx _ _ _ _ (e5.put (e5.fresh hp5)) h5
      | false =>
        rw [if_neg Bool.false_ne_true]
        have ex : Yard.so x = [x] := by unfold Yard.so; rw [hs, if_neg Bool.false_ne_true]
        rw [ex] at nx
        refine ⟨sz_of (by decide), fun p5 hp5 => ?_⟩
        have h5 := up_get (u := .lst [enc x]) g4 hp5
        exact ext_m (m := [enc x]) h5 up_same (by rw [ex] at sz; simp only [List.length_map, List.length_cons, List.length_nil] at sz ⊢; omega) (nx _ _ _ _ (Ext.up hp5) h5)
end W81
end
section
set_option Elab.async false
set_option linter.all false
set_option maxRecDepth 100000
set_option maxHeartbeats 4000000
namespace W81
open PySem PySem.Spec PyProof.Rows L2 DL
local macro_rules | `(tactic| walk_at "rd") => `(tactic| simp only [dSeq, dIfS, dOrT, dAndT, dNotT, dTest, dRet, dRetN, dAndV, dOrV, dNotV, dB, dCons, dNil, dC, dVar_iff, dBin, dChain, dAsg, dgName, dgTup, dgCons, dgNil, dCall, dTup, dLst, dNeg, dIf, dDrop, dNext, dYes, turnD, wipeD, dLc, diSeq, dSl, doSome, doNone, dM, dM0, dFor, dOr, dgSub, dIsN, dNotN, dEnum, dRange1, dRange2, dZip, dListZip, dAug, dPar, dRev, dRevL, dZipY, dKeysN, dValsN, dItemsN, dLockE, dLockS, dSetdef, dDNewN, dDNew, dDispN, dDisp, dCallX, dDropX, dRetX, dAsgX, dRaise, dCallL, dCallR, dCallXR, dLc2, turn2, startD, List.map_cons, List.map_nil, List.cons_append, List.nil_append, List.length_cons, List.length_nil, Nat.reduceAdd, Nat.reduceSub, Nat.zero_add, List.reduceReplicate, List.replicate_succ, List.replicate_zero, List.getElem?_cons_zero, List.getElem?_cons_succ, List.set_cons_zero, List.set_cons_succ, if_true])
theorem mem_len {y : Yrd} {c : Col} (h : c ∈ y) : c.length ≤ y.flatten.length := by
  induction y with
  | nil => cases h
  | cons a y ih =>
    rw [List.flatten_cons, List.length_append]
    rcases List.mem_cons.mp h with rfl | h
    · omega
    · have := ih h; omega
theorem yrd_len {y : Yrd} (h : ∀ c ∈ y, c ≠ []) : y.length ≤ y.flatten.length := by
  induction y with
  | nil => simp
  | cons a y ih =>
    have h1 := List.length_pos_iff.mpr (h a List.mem_cons_self)
    have h2 := ih fun c hc => h c (List.mem_cons_of_mem _ hc)
    rw [List.flatten_cons, List.length_append, List.length_cons]
    omega
/-! ### pulled -/
def cutK (k : Str) (c : Col) : Col := (c.reverse.erase k).reverse
def rankD (c : Col) : D := .tup [.bl (!Yard.sgl c), .int c.length, enc c]
/-- the column from which a kind is pulled -/
structure Chosen (y : Yrd) (k : Str) (c : Col) : Prop where
  mem : c ∈ y
  kc : k ∈ c
  least : ∀ d ∈ y, k ∈ d → depI k c ≤ depI k d
  rank : ∀ d ∈ y, depI k d = depI k c → ltD (rankD d) (rankD c) = false
def behindC (y : Yrd) (k : Str) (c : Col) : Yrd := laidC (y.erase c ++ [cutK k c])
theorem depI_nn {k : Str} {c : Col} : 0 ≤ depI k c ↔ k ∈ c := by
  unfold depI
  split
  · rename_i h; exact ⟨fun _ => h, fun _ => by omega⟩
  · rename_i h; exact ⟨fun z => by omega, fun z => absurd z h⟩
theorem depI_lt {k : Str} {c : Col} (h : k ∈ c) : ∃ j : Nat, depI k c = j ∧ j < c.length ∧ c.reverse.idxOf k = j := by
  unfold depI
  rw [if_pos h]
  refine ⟨_, rfl, ?_, rfl⟩
  have := List.idxOf_lt_length_of_mem (List.mem_reverse.mpr h)
  rwa [List.length_reverse] at this
theorem erase_idx {k : Str} : ∀ (l : List Str), k ∈ l → l.erase k = l.take (l.idxOf k) ++ l.drop (l.idxOf k + 1)
  | [], h => by cases h
  | x :: l, h => by
    by_cases e : x = k
    · subst e; rw [List.idxOf_cons_self]; simp
    · rw [Yard.idx_ne e, List.erase_cons_tail (by simpa using e), erase_idx l (by simpa [Ne.symm e] using h)]
      simp
theorem cutK_eq {k : Str} {c : Col} (h : k ∈ c) {j : Nat} (hj : c.reverse.idxOf k = j) (hl : j < c.length) : c.take (c.length - 1 - j) ++ c.drop (c.length - 1 - j + 1) = cutK k c := by
  unfold cutK
  rw [erase_idx _ (List.mem_reverse.mpr h), hj, List.reverse_append, List.take_reverse, List.drop_reverse, List.reverse_reverse, List.reverse_reverse]
  rw [show c.length - (j + 1) = c.length - 1 - j by omega, show c.length - j = c.length - 1 - j + 1 by omega]
theorem rank_okd (c : Col) : Okd 8 (rankD c) := fun d hd => by
  rcases List.mem_cons.mp hd with rfl | hd
  · exact okd_bl
  rcases List.mem_cons.mp hd with rfl | hd
  · exact okd_int
  obtain rfl := List.mem_singleton.mp hd
  exact okd_mono (Enc.okd c) (by decide)
theorem rank_alike (c d : Col) : PySem.W.alike (rankD c).toP (rankD d).toP = true := by
  unfold rankD
  rw [D.toP, D.toP, PySem.W.alike]
  simp only [toPs, PySem.W.alikeAll, Enc.alike]
  rw [D.toP, D.toP, D.toP, D.toP]
  simp only [PySem.W.alike]
  rfl
theorem ltD_irrefl (x : D) : ltD x x = false := PySem.W.dataLt_self _
/-- the least so far -/
def Cho (pre : Yrd) (k : Str) (best : Int) (ch : D) : Prop :=
  (ch = .tup [] ∧ ∀ d ∈ pre, depI k d ≠ best) ∨ ∃ c ∈ pre, depI k c = best ∧ ch = rankD c ∧ ∀ d ∈ pre, depI k d = best → ltD (rankD d) (rankD c) = false
def spPulled : SpD := fun ds G Q => ∃ (y : Yrd) (k : Str), ds = [enc y, .str k] ∧ OkY y ∧ ∀ G', Ext G G' →
  (k ∉ y.flatten → Q (.tup [.int (-1), enc y]) G') ∧ ∀ c, Chosen y k c → Q (.tup [.int (depI k c), enc (behindC y k c)]) G'
theorem k_pulled (ds : List D) (G : Gp) (Q : DK) (h : spPulled ds G Q) : r_pulled spLaid spSgl spDep { nx := fun _ G' => Q .non G', rt := Q } (startD ["yard", "kind", "depths", "known", "best", "chosen", "column", "place", "rest", "digs", "rank"] ds) G := by
  obtain ⟨y, k, rfl, hy, q⟩ := h
  unfold r_pulled
  walk_at "rd"
  refine ⟨_, _, .tup, mapD_map (fun c : Col => some (depI k c)) D.int (fun _ _ => trivial) (fun c _ G1 R e1 hR => ?_) fun G1 e1 p1 hp1 => ?_⟩
  · walk_at "rd"
    exact ⟨c, k, rfl, fun G2 e2 => hR G2 e2⟩
  rw [show (y.filterMap fun c : Col => some (depI k c)) = y.map (depI k) by simp [List.filterMap_eq_map]]
  obtain ⟨G1', hG1'⟩ : ∃ g, g = up G1 p1 (.lst ((y.map (depI k)).map D.int)) := ⟨_, rfl⟩
  have e1' : Ext G G1' := by rw [hG1']; exact e1.put (e1.fresh hp1)
  have h1 : G1' p1 = some (.lst ((y.map (depI k)).map D.int)) := by rw [hG1', up_same]
  rw [← hG1']
  clear hG1' hp1 e1
  refine ⟨_, _, .lst (lstAt_lst h1), mapD_map (fun d : Int => if d < 0 then none else some d) D.int (fun G' e => e.lst (lstAt_lst h1)) (fun d _ G2 R e2 hR => ?_) fun G2 e2 p2 hp2 => ?_⟩
  · walk_at "rd"
    refine ge_i ⟨_, rfl, ?_⟩
    have := hR G2 (Ext.refl G2)
    by_cases hd : d < 0
    · rw [if_pos hd] at this
      rw [if_neg (by simp; omega)]
      exact this
    · rw [if_neg hd] at this
      rw [if_pos (by simp; omega)]
      exact this
  rw [filterMap_if]
  obtain ⟨kn, hkn⟩ : ∃ l, l = (y.map (depI k)).filter fun d => decide (¬ d < 0) := ⟨_, rfl⟩
  have mkn : ∀ d, d ∈ kn ↔ ∃ c ∈ y, k ∈ c ∧ depI k c = d := fun d => by
    rw [hkn, List.mem_filter, List.mem_map]
    constructor
    · rintro ⟨⟨c, hc, rfl⟩, hd⟩
      exact ⟨c, hc, depI_nn.mp (by simpa using hd), rfl⟩
    · rintro ⟨c, hc, hk, rfl⟩
      exact ⟨⟨c, hc, rfl⟩, by have := depI_nn.mpr hk; simpa using this⟩
  rw [← hkn]
  obtain ⟨G2', hG2'⟩ : ∃ g, g = up G2 p2 (.lst (kn.map D.int)) := ⟨_, rfl⟩
  have e2' : Ext G1' G2' := by rw [hG2']; exact e2.put (e2.fresh hp2)
  have h2 : G2' p2 = some (.lst (kn.map D.int)) := by rw [hG2', up_same]
  rw [← hG2']
  clear hG2' hp2 e2
  refine ⟨sz_of (by decide), fun p3 hp3 => ?_⟩
  refine eq_nil (lstAt_lst (up_get h2 hp3)) lst_up ⟨_, rfl, ?_⟩
  have e3 : Ext G1' (up G2' p3 (.lst [])) := e2'.put (e2'.fresh hp3)
  have h3 := up_get (u := .lst []) h2 hp3
  obtain ⟨G3, hG3⟩ : ∃ g, g = up G2' p3 (.lst []) := ⟨_, rfl⟩
  rw [← hG3] at e3 h3 ⊢
  have e30 := e1'.trans e3
  cases hk0 : kn with
  | nil =>
    rw [List.map_nil, List.isEmpty_nil, if_pos rfl]
    refine ⟨1, rfl, sz_of (by decide), ?_⟩
    refine (q G3 e30).1 fun hk => ?_
    obtain ⟨c, hc, hkc⟩ := List.mem_flatten.mp hk
    have := (mkn _).mpr ⟨c, hc, hkc, rfl⟩
    rw [hk0] at this; cases this
  | cons d0 kr =>
    rw [List.map_cons, List.isEmpty_cons, if_neg Bool.false_ne_true]
    refine ⟨p2, kn, rfl, lstAt_lst h3, by rw [hk0]; simp, fun best hb hmin => ?_⟩
    obtain ⟨cb, hcb, hkcb, hdb⟩ := (mkn best).mp hb
    refine ⟨sz_of (by decide), ?_⟩
    have h13 := e3 p1 _ h1
    refine ⟨p1, _, _, rfl, lstAt_lst h13, by simp, ?_⟩
    rw [List.map_map, zipD_self (f := enc (α := Col)) (g := D.int ∘ depI k) y]
    have hbn : 0 ≤ best := by rw [← hdb]; exact depI_nn.mpr hkcb
    refine forD_map (fun pre env G4 => (∃ ch o6 o9 o10, env = [some (enc y), some (D.str k), some (D.ref p1), some (D.ref p2), some (D.int best), some ch, o6, none, none, o9, o10] ∧ Cho pre k best ch) ∧ Ext G3 G4)
      ⟨⟨_, _, _, _, rfl, .inl ⟨rfl, fun d hd => by cases hd⟩⟩, Ext.refl _⟩ (fun env G4 ⟨⟨ch, o6, o9, o10, he, hc⟩, e4⟩ => ⟨by rw [← List.map_map]; exact e4.lst (lstAt_lst h13), ?_⟩) fun pre x post env G4 K hl ⟨⟨ch, o6, o9, o10, he, hc⟩, e4⟩ hK => ⟨by rw [← List.map_map]; exact e4.lst (lstAt_lst h13), ?_⟩
    · subst he
      obtain ⟨c, hcy, hcb2, rfl, hrk⟩ : ∃ c ∈ y, depI k c = best ∧ ch = rankD c ∧ ∀ d ∈ y, depI k d = best → ltD (rankD d) (rankD c) = false := by
        rcases hc with ⟨_, h⟩ | h
        · exact absurd hdb (h cb hcb)
        · exact h
      have hkc : k ∈ c := depI_nn.mp (by rw [hcb2]; exact hbn)
      have cho : Chosen y k c := ⟨hcy, hkc, fun d hd hkd => by rw [hcb2]; exact hmin _ ((mkn _).mpr ⟨d, hd, hkd, rfl⟩), fun d hd hdd => hrk d hd (by rw [hdd, hcb2])⟩
      obtain ⟨j, hj, hjl, hjx⟩ := depI_lt hkc
      have hbj : best = (j : Int) := by rw [← hcb2, hj]
      have hcl : c.length ≤ 100000 := Nat.le_trans (mem_len hcy) hy.2
      subst hbj
      walk_at "rd"
      refine ix_t (l := [_, _, _]) (i := 2) (d := enc c) rfl ?_
      refine len_t (sub_i (sub_i ?_))
      have ep : ((c.map (enc (α := Str))).length : Int) - 1 - (j : Int) = ((c.length - 1 - j : Nat) : Int) := by rw [List.length_map]; omega
      rw [ep]
      refine list_t fun p5 hp5 => ?_
      have e5 : Ext G (up G4 p5 (.lst (y.map enc))) := (e30.trans e4).put ((e30.trans e4).fresh hp5)
      have n5 : G p5 = none := (e30.trans e4).fresh hp5
      refine ⟨some_lst lst_up, rem_m c up_same rfl hcy ?_⟩
      rw [up_up]
      refine ⟨some_lst lst_up, ⟨_, rfl, .tup (add_i ⟨((c.length - 1 - j + 1 : Nat) : Int), by rw [Int.natCast_add]; rfl, .tup ?_⟩)⟩⟩
      rw [cut_head, cut_tail, ← List.map_take, ← List.map_drop]
      refine add_t (sz_of (by simp; omega)) ?_
      rw [← List.map_append, cutK_eq hkc hjx hjl]
      refine app_m up_same (by
        rw [List.length_map, List.length_erase_of_mem hcy]
        have := yrd_len hy.1
        have := hy.2
        omega) ?_
      rw [up_up]
      refine ⟨p5, y.erase c ++ [cutK k c], rfl, by rw [lst_up, List.map_append]; rfl, fun G6 e6 => ⟨sz_of (by decide), ?_⟩⟩
      have := (q G6 (((e30.trans e4).put n5).trans e6)).2 c cho
      rw [hj] at this
      exact this
    · subst he
      walk_at "rd"
      refine ⟨_, rfl, rfl, _, _, rfl, _, _, rfl, rfl, ?_⟩
      refine eqE (depI k x) best ⟨_, rfl, ?_⟩
      by_cases hx : depI k x = best
      · rw [if_pos (decide_eq_true hx)]
        refine ⟨x, rfl, fun G5 e5 => ⟨_, rfl, len_t ⟨sz_of (by decide), ?_⟩⟩⟩
        rw [List.length_map]
        have rk : (D.tup [.bl (!Yard.sgl x), .int x.length, enc x]) = rankD x := rfl
        rw [rk]
        have old : ∀ {ch : D}, Cho pre k best ch → (ch = .tup [] ∨ ∃ c ∈ pre, ch = rankD c) := fun h => by
          rcases h with ⟨h, _⟩ | ⟨c, h1, _, h2, _⟩
          · exact .inl h
          · exact .inr ⟨c, h1, h2⟩
        have e45 := e4.trans e5
        rcases hc with ⟨h1, h2⟩ | ⟨c, hc, h1, h2, h3⟩
        · subst h1
          refine ⟨Nat.zero_le _, eq_emp (fun d hd => by cases hd) ⟨_, rfl, ?_⟩⟩
          rw [List.isEmpty_nil, if_pos rfl]
          refine hK _ _ ⟨⟨_, _, _, _, rfl, .inr ⟨x, by simp, hx, rfl, fun d hd hdd => ?_⟩⟩, e45⟩
          rcases List.mem_append.mp hd with h | h
          · exact absurd hdd (h2 d h)
          · rw [List.mem_singleton.mp h]; exact ltD_irrefl _
        · subst h2
          refine ⟨Nat.zero_le _, eq_emp (rank_okd c) ⟨_, rfl, ?_⟩⟩
          rw [List.isEmpty_cons, if_neg Bool.false_ne_true]
          refine .inr ⟨⟨rank_okd x, rank_okd c, rank_alike x c, by intro z; cases z⟩, ⟨_, rfl, ?_⟩⟩
          cases hlt : ltD (rankD x) (rankD c) with
          | true =>
            rw [if_pos rfl]
            refine hK _ _ ⟨⟨_, _, _, _, rfl, .inr ⟨x, by simp, hx, rfl, fun d hd hdd => ?_⟩⟩, e45⟩
            rcases List.mem_append.mp hd with h | h
            · have a1 := h3 d h hdd
              have : leD (rankD x) (rankD d) = true := leD_trans _ (rankD c) _ (by
                have := leD_total (rankD x) (rankD c)
                unfold leD at this ⊢
                rw [hlt] at this
                simpa using this) (by unfold leD; rw [a1]; rfl)
              unfold leD at this
              simpa using this
            · rw [List.mem_singleton.mp h]; exact ltD_irrefl _
          | false =>
            rw [if_neg Bool.false_ne_true]
            refine hK _ _ ⟨⟨_, _, _, _, rfl, .inr ⟨c, List.mem_append_left _ hc, h1, rfl, fun d hd hdd => ?_⟩⟩, e45⟩
            rcases List.mem_append.mp hd with h | h
            · exact h3 d h hdd
            · rw [List.mem_singleton.mp h]; exact hlt
      · rw [if_neg (by simpa using hx)]
        refine hK _ _ ⟨⟨ch, _, _, _, rfl, ?_⟩, e4⟩
        rcases hc with ⟨h1, h2⟩ | ⟨c, hc, h1, h2, h3⟩
        · refine .inl ⟨h1, fun d hd => ?_⟩
          rcases List.mem_append.mp hd with h | h
          · exact h2 d h
          · rw [List.mem_singleton.mp h]; exact hx
        · refine .inr ⟨c, List.mem_append_left _ hc, h1, h2, fun d hd hdd => ?_⟩
          rcases List.mem_append.mp hd with h | h
          · exact h3 d h hdd
          · rw [List.mem_singleton.mp h] at hdd; exact absurd hdd hx
end W81
end
section
set_option Elab.async false
set_option linter.all false
set_option maxRecDepth 100000
set_option maxHeartbeats 4000000
namespace W81
open PySem PySem.Spec PyProof.Rows L2 DL
local macro_rules | `(tactic| walk_at "rd") => `(tactic| simp only [dSeq, dIfS, dOrT, dAndT, dNotT, dTest, dRet, dRetN, dAndV, dOrV, dNotV, dB, dCons, dNil, dC, dVar_iff, dBin, dChain, dAsg, dgName, dgTup, dgCons, dgNil, dCall, dTup, dLst, dNeg, dIf, dDrop, dNext, dYes, turnD, wipeD, dLc, diSeq, dSl, doSome, doNone, dM, dM0, dFor, dOr, dgSub, dIsN, dNotN, dEnum, dRange1, dRange2, dZip, dListZip, dAug, dPar, dRev, dRevL, dZipY, dKeysN, dValsN, dItemsN, dLockE, dLockS, dSetdef, dDNewN, dDNew, dDispN, dDisp, dCallX, dDropX, dRetX, dAsgX, dRaise, dCallL, dCallR, dCallXR, dLc2, turn2, startD, List.map_cons, List.map_nil, List.cons_append, List.nil_append, List.length_cons, List.length_nil, Nat.reduceAdd, Nat.reduceSub, Nat.zero_add, List.reduceReplicate, List.replicate_succ, List.replicate_zero, List.getElem?_cons_zero, List.getElem?_cons_succ, List.set_cons_zero, List.set_cons_succ, if_true])
/-! ### words -/
theorem idx_le : ∀ {l : Col} {i : Nat} (h : i < l.length), l.idxOf l[i] ≤ i
  | [], _, h => absurd h (by simp)
  | x :: l, 0, _ => by rw [List.getElem_cons_zero, List.idxOf_cons_self]; exact Nat.le_refl _
  | x :: l, i + 1, h => by
    rw [List.getElem_cons_succ]
    by_cases e : x = l[i]'(by simpa using h)
    · rw [← e, List.idxOf_cons_self]; exact Nat.zero_le _
    · rw [Yard.idx_ne e]
      have := idx_le (l := l) (i := i) (by simpa using h)
      omega
abbrev Wl := Col × Col
def wordsOn (w l : Col) : List Wl := l.zipIdx.filterMap fun p => if p.2 = 0 ∨ l[p.2 - 1]? ≠ some p.1 then some (w ++ [p.1], l.take p.2 ++ l.drop (p.2 + 1)) else none
theorem wordsOn_len (w l : Col) : (wordsOn w l).length ≤ l.length := by
  unfold wordsOn
  refine Nat.le_trans (List.length_filterMap_le _ _) ?_
  rw [List.length_zipIdx]
  exact Nat.le_refl _
theorem wordsOn_mem {w l : Col} {p : Wl} (h : p ∈ wordsOn w l) : ∃ k, p.1 = w ++ [k] ∧ (k :: p.2).Perm l := by
  unfold wordsOn at h
  obtain ⟨⟨k, i⟩, hq, he⟩ := List.mem_filterMap.mp h
  have hi := List.mem_zipIdx hq
  split at he
  · cases he
    refine ⟨k, rfl, ?_⟩
    obtain ⟨_, h2, h3⟩ := hi
    have h2 : i < l.length := by omega
    have h3 : k = l[i] := by simpa using h3
    have e : l.take i ++ l[i] :: l.drop (i + 1) = l := by rw [← List.drop_eq_getElem_cons h2, List.take_append_drop]
    rw [← h3] at e
    conv => rhs; rw [← e]
    exact List.perm_middle.symm
  · cases he
theorem wordsOn_has {w l r : Col} {k : Str} (h : (k :: r).Perm l) : ∃ p ∈ wordsOn w l, p.1 = w ++ [k] ∧ p.2.Perm r := by
  have hk : k ∈ l := h.mem_iff.mp List.mem_cons_self
  have hi := List.idxOf_lt_length_of_mem hk
  refine ⟨(w ++ [k], l.take (l.idxOf k) ++ l.drop (l.idxOf k + 1)), ?_, rfl, ?_⟩
  · unfold wordsOn
    refine List.mem_filterMap.mpr ⟨(k, l.idxOf k), ?_, ?_⟩
    · rw [List.mk_mem_zipIdx_iff_getElem?]
      rw [List.getElem?_eq_getElem hi, List.getElem_idxOf]
    · rw [if_pos]
      by_cases h0 : l.idxOf k = 0
      · exact .inl h0
      · right
        intro hc
        have hlt : l.idxOf k - 1 < l.length := by omega
        rw [List.getElem?_eq_getElem hlt] at hc
        have hc : l[l.idxOf k - 1] = k := Option.some.inj hc
        have : l.idxOf k ≤ l.idxOf k - 1 := by
          conv => lhs; rw [← hc]
          exact idx_le hlt
        omega
  · rw [← erase_idx l hk]
    have := h.erase k
    rw [List.erase_cons_head] at this
    exact this.symm
def spWordsOn : SpD := fun ds G Q => ∃ (w l : Col), ds = [enc w, enc l] ∧ w.length ≤ 1000 ∧ l.length ≤ 1000 ∧ ∀ G' p, Ext G G' → G p = none → G' p = some (.lst ((wordsOn w l).map enc)) → Q (.ref p) G'
theorem k_words_on (ds : List D) (G : Gp) (Q : DK) (h : spWordsOn ds G Q) : r_words_on { nx := fun _ G' => Q .non G', rt := Q } (startD ["word", "left", "found", "at", "kind"] ds) G := by
  obtain ⟨w, l, rfl, hw, hll, q⟩ := h
  unfold r_words_on
  walk_at "rd"
  refine ⟨sz_of (by decide), fun p hp => .inr ⟨_, rfl, ?_⟩⟩
  rw [show enumD 0 (l.map (enc (α := Str))) = _ from enumD_zip l 0]
  refine forD_map (fun pre env G1 => (∃ o3 o4, env = [some (enc w), some (enc l), some (.ref p), o3, o4]) ∧ Ext G G1 ∧ pre.length ≤ 1000 ∧ G1 p = some (.lst ((pre.filterMap fun p => if p.2 = 0 ∨ l[p.2 - 1]? ≠ some p.1 then some (w ++ [p.1], l.take p.2 ++ l.drop (p.2 + 1)) else none).map enc)))
    ⟨⟨_, _, rfl⟩, Ext.up hp, by simp, up_same⟩ (fun env G1 ⟨⟨o3, o4, he⟩, e1, _, h1⟩ => ⟨trivial, ?_⟩) fun pre x post env G1 K hl ⟨⟨o3, o4, he⟩, e1, hpl, h1⟩ hK => ⟨trivial, ?_⟩
  · subst he
    walk_at "rd"
    exact q G1 p e1 hp h1
  · subst he
    obtain ⟨hx2, hx1⟩ := zipIdx_split hl
    have hx2 : x.2 = pre.length := by omega
    have hlen : pre.length < l.length := by
      have := congrArg List.length hx1
      simp at this; omega
    walk_at "rd"
    refine ⟨_, rfl, rfl, _, _, rfl, _, _, rfl, rfl, ?_⟩
    have step : ∀ o1 o2, (x.2 = 0 ∨ l[x.2 - 1]? ≠ some x.1) → K [some (enc w), some (enc l), some (.ref p), o1, o2] (up G1 p (.lst ((pre.filterMap fun p => if p.2 = 0 ∨ l[p.2 - 1]? ≠ some p.1 then some (w ++ [p.1], l.take p.2 ++ l.drop (p.2 + 1)) else none).map enc ++ [enc (w ++ [x.1], l.take x.2 ++ l.drop (x.2 + 1))]))) := fun o1 o2 hc =>
      hK _ _ ⟨⟨_, _, rfl⟩, e1.put hp, by simp; omega, by rw [up_same, List.filterMap_append, List.map_append]; simp [hc]⟩
    have skip : ∀ o1 o2, ¬ (x.2 = 0 ∨ l[x.2 - 1]? ≠ some x.1) → K [some (enc w), some (enc l), some (.ref p), o1, o2] G1 := fun o1 o2 hc =>
      hK _ _ ⟨⟨_, _, rfl⟩, e1, by simp; omega, by rw [h1, List.filterMap_append]; simp [hc]⟩
    refine eqE (x.2 : Int) 0 ⟨_, rfl, ?_⟩
    by_cases h0 : x.2 = 0
    · have hc : x.2 = 0 ∨ l[x.2 - 1]? ≠ some x.1 := .inl h0
      rw [if_pos (by simp [h0])]
      refine ⟨some_lst (lstAt_lst h1), sz_of (by decide), add_t (sz_of (by simp; omega)) ⟨_, rfl, .tup (add_i ⟨((x.2 + 1 : Nat) : Int), by rw [Int.natCast_add]; rfl, .tup ?_⟩)⟩⟩
      rw [cut_head, cut_tail, ← List.map_take, ← List.map_drop]
      refine add_t (sz_of (by simp; omega)) ⟨sz_of (by decide), ?_⟩
      rw [← List.map_append]
      refine ⟨p, _, _, rfl, rfl, h1, sz_lt (by rw [List.length_map]; exact Nat.lt_of_le_of_lt (List.length_filterMap_le _ _) (by omega)), ?_⟩
      have := step (some (.int (x.2 : Nat))) (some (enc x.1)) hc
      rw [show (enc (w ++ [x.1], l.take x.2 ++ l.drop (x.2 + 1)) : D) = .tup [.tup (w.map enc ++ [enc x.1]), .tup ((l.take x.2 ++ l.drop (x.2 + 1)).map enc)] from by show D.tup [D.tup ((w ++ [x.1]).map enc), _] = _; rw [List.map_append]; rfl] at this
      exact this
    · rw [if_neg (by simp; omega)]
      have hlt : x.2 - 1 < l.length := by omega
      refine sub_i (ix_t (d := enc l[x.2 - 1]) ?_ (neE l[x.2 - 1] x.1 ⟨_, rfl, ?_⟩))
      · rw [show (x.2 : Int) - 1 = ((x.2 - 1 : Nat) : Int) by omega]
        refine atI_nat ?_
        rw [List.getElem?_map, List.getElem?_eq_getElem hlt]
        rfl
      · by_cases h2 : l[x.2 - 1] = x.1
        · rw [if_neg (by simp [h2])]
          refine skip _ _ fun hc => ?_
          rcases hc with hc | hc
          · exact h0 hc
          · rw [List.getElem?_eq_getElem hlt, h2] at hc; exact hc rfl
        · have hc : x.2 = 0 ∨ l[x.2 - 1]? ≠ some x.1 := .inr (by rw [List.getElem?_eq_getElem hlt]; intro z; exact h2 (Option.some.inj z))
          rw [if_pos (by simp [h2])]
          refine ⟨some_lst (lstAt_lst h1), sz_of (by decide), add_t (sz_of (by simp; omega)) ⟨_, rfl, .tup (add_i ⟨((x.2 + 1 : Nat) : Int), by rw [Int.natCast_add]; rfl, .tup ?_⟩)⟩⟩
          rw [cut_head, cut_tail, ← List.map_take, ← List.map_drop]
          refine add_t (sz_of (by simp; omega)) ⟨sz_of (by decide), ?_⟩
          rw [← List.map_append]
          refine ⟨p, _, _, rfl, rfl, h1, sz_lt (by rw [List.length_map]; exact Nat.lt_of_le_of_lt (List.length_filterMap_le _ _) (by omega)), ?_⟩
          have := step (some (.int (x.2 : Nat))) (some (enc x.1)) hc
          rw [show (enc (w ++ [x.1], l.take x.2 ++ l.drop (x.2 + 1)) : D) = .tup [.tup (w.map enc ++ [enc x.1]), .tup ((l.take x.2 ++ l.drop (x.2 + 1)).map enc)] from by show D.tup [D.tup ((w ++ [x.1]).map enc), _] = _; rw [List.map_append]; rfl] at this
          exact this
end W81
end
section
set_option Elab.async false
set_option linter.all false
set_option maxRecDepth 100000
set_option maxHeartbeats 4000000
namespace W81
open PySem PySem.Spec PyProof.Rows L2 DL
local macro_rules | `(tactic| walk_at "rd") => `(tactic| simp only [dSeq, dIfS, dOrT, dAndT, dNotT, dTest, dRet, dRetN, dAndV, dOrV, dNotV, dB, dCons, dNil, dC, dVar_iff, dBin, dChain, dAsg, dgName, dgTup, dgCons, dgNil, dCall, dTup, dLst, dNeg, dIf, dDrop, dNext, dYes, turnD, wipeD, dLc, diSeq, dSl, doSome, doNone, dM, dM0, dFor, dOr, dgSub, dIsN, dNotN, dEnum, dRange1, dRange2, dZip, dListZip, dAug, dPar, dRev, dRevL, dZipY, dKeysN, dValsN, dItemsN, dLockE, dLockS, dSetdef, dDNewN, dDNew, dDispN, dDisp, dCallX, dDropX, dRetX, dAsgX, dRaise, dCallL, dCallR, dCallXR, dLc2, turn2, startD, List.map_cons, List.map_nil, List.cons_append, List.nil_append, List.length_cons, List.length_nil, Nat.reduceAdd, Nat.reduceSub, Nat.zero_add, List.reduceReplicate, List.replicate_succ, List.replicate_zero, List.getElem?_cons_zero, List.getElem?_cons_succ, List.set_cons_zero, List.set_cons_succ, if_true])
def stepW (f : List Wl) : List Wl := f.flatMap fun p => wordsOn p.1 p.2
def itW : Nat → List Wl → List Wl
  | 0, f => f
  | n + 1, f => stepW (itW n f)
/-- words of some kinds with what is left -/
def wordsN (t : Nat) (ks : Col) : List Wl := itW t [([], ks)]
theorem wordsN_mem : ∀ {t : Nat} {ks : Col} {p : Wl}, p ∈ wordsN t ks → p.1.length = t ∧ (p.1 ++ p.2).Perm ks
  | 0, ks, p, h => by
    obtain rfl := List.mem_singleton.mp h
    exact ⟨rfl, List.Perm.refl _⟩
  | t + 1, ks, p, h => by
    obtain ⟨q, hq, hp⟩ := List.mem_flatMap.mp (show p ∈ (itW t [([], ks)]).flatMap _ from h)
    obtain ⟨h1, h2⟩ := wordsN_mem (t := t) (ks := ks) (p := q) hq
    obtain ⟨k, e1, e2⟩ := wordsOn_mem hp
    refine ⟨by rw [e1]; simp [h1], ?_⟩
    rw [e1, List.append_assoc]
    exact (List.Perm.append_left q.1 e2).trans h2
theorem wordsN_has : ∀ {t : Nat} {ks w r : Col}, w.length = t → (w ++ r).Perm ks → ∃ p ∈ wordsN t ks, p.1 = w ∧ p.2.Perm r
  | 0, ks, w, r, h, hp => by
    obtain rfl := List.length_eq_zero_iff.mp h
    exact ⟨([], ks), List.mem_singleton.mpr rfl, rfl, hp.symm⟩
  | t + 1, ks, w, r, h, hp => by
    rcases List.eq_nil_or_concat w with rfl | ⟨u, k, rfl⟩
    · cases h
    · obtain ⟨p, h1, h2, h3⟩ := wordsN_has (t := t) (ks := ks) (w := u) (r := k :: r) (by simpa using h) (by simpa using hp)
      obtain ⟨q, g1, g2, g3⟩ := wordsOn_has (w := p.1) h3.symm
      exact ⟨q, List.mem_flatMap.mpr ⟨p, h1, g1⟩, by rw [g2, h2]; simp, g3⟩
theorem wordsN_len {ks : Col} (h : ks.length ≤ 6) : ∀ t, (wordsN t ks).length ≤ 6 ^ t
  | 0 => Nat.le_refl _
  | t + 1 => by
    have key : ∀ f : List Wl, (∀ p ∈ f, p.2.length ≤ 6) → (stepW f).length ≤ f.length * 6 := by
      intro f
      induction f with
      | nil => intro _; simp [stepW]
      | cons p f ih =>
        intro hf
        have h1 := ih fun q hq => hf q (List.mem_cons_of_mem _ hq)
        have h2 := wordsOn_len p.1 p.2
        have h3 := hf p List.mem_cons_self
        unfold stepW at h1 ⊢
        rw [List.flatMap_cons, List.length_append, List.length_cons, Nat.succ_mul]
        omega
    have h1 := key (wordsN t ks) fun p hp => by
      have := (wordsN_mem hp).2.length_eq
      rw [List.length_append] at this
      omega
    have h2 := wordsN_len h t
    calc (wordsN (t + 1) ks).length ≤ (wordsN t ks).length * 6 := h1
      _ ≤ 6 ^ t * 6 := Nat.mul_le_mul_right 6 h2
      _ = 6 ^ (t + 1) := (Nat.pow_succ ..).symm
theorem wordsN_small {ks : Col} (h : ks.length ≤ 6) {t : Nat} (ht : t ≤ 6) : (wordsN t ks).length ≤ 46656 := Nat.le_trans (wordsN_len h t) (Nat.pow_le_pow_right (by decide) ht)
/-- how many words there are -/
def fct : Nat → Nat
  | 0 => 1
  | n + 1 => (n + 1) * fct n
theorem fct_pos : ∀ n, 0 < fct n
  | 0 => Nat.one_pos
  | n + 1 => Nat.mul_pos (Nat.succ_pos n) (fct_pos n)
theorem fct_mono {m n : Nat} (h : m ≤ n) : fct m ≤ fct n := by
  induction n with
  | zero => have : m = 0 := by omega
            subst this; exact Nat.le_refl _
  | succ n ih =>
    by_cases e : m = n + 1
    · subst e; exact Nat.le_refl _
    · refine Nat.le_trans (ih (by omega)) ?_
      show fct n ≤ (n + 1) * fct n
      exact Nat.le_mul_of_pos_left _ (Nat.succ_pos n)
theorem wordsN_fct {ks : Col} : ∀ t, t ≤ ks.length → (wordsN t ks).length * fct (ks.length - t) ≤ fct ks.length
  | 0, _ => by show 1 * _ ≤ _; rw [Nat.one_mul, Nat.sub_zero]; exact Nat.le_refl _
  | t + 1, h => by
    have key : ∀ f : List Wl, (∀ p ∈ f, p.2.length = ks.length - t) → (stepW f).length ≤ f.length * (ks.length - t) := by
      intro f
      induction f with
      | nil => intro _; simp [stepW]
      | cons p f ih =>
        intro hf
        have h1 := ih fun q hq => hf q (List.mem_cons_of_mem _ hq)
        have h2 := wordsOn_len p.1 p.2
        have h3 := hf p List.mem_cons_self
        unfold stepW at h1 ⊢
        rw [List.flatMap_cons, List.length_append, List.length_cons, Nat.succ_mul]
        omega
    have h1 := key (wordsN t ks) fun p hp => by
      have hw := wordsN_mem (t := t) (ks := ks) hp
      have := hw.2.length_eq
      have h2 := hw.1
      rw [List.length_append] at this
      omega
    have h2 := wordsN_fct (ks := ks) t (by omega)
    have e : ks.length - t = (ks.length - (t + 1)) + 1 := by omega
    rw [e] at h2 h1
    calc (wordsN (t + 1) ks).length * fct (ks.length - (t + 1)) ≤ (wordsN t ks).length * (ks.length - (t + 1) + 1) * fct (ks.length - (t + 1)) := Nat.mul_le_mul_right _ h1
      _ = (wordsN t ks).length * fct (ks.length - (t + 1) + 1) := by rw [Nat.mul_assoc]; rfl
      _ ≤ fct ks.length := h2
theorem wordsN_720 {ks : Col} (h : ks.length ≤ 6) : (wordsN ks.length ks).length ≤ 720 := by
  have h1 := wordsN_fct (ks := ks) ks.length (Nat.le_refl _)
  rw [Nat.sub_self] at h1
  have h2 : fct ks.length ≤ fct 6 := fct_mono h
  have h3 : fct 6 = 720 := by decide
  have h4 : fct 0 = 1 := rfl
  rw [h4, Nat.mul_one] at h1
  omega
def spWordsOf : SpD := fun ds G Q => ∃ (a : Addr) (ks : Col), ds = [.ref a] ∧ lstAt G a = some (ks.map D.str) ∧ ks.length ≤ 6 ∧ ∀ G' p, Ext G G' → G p = none → G' p = some (.lst (((wordsN ks.length ks).map (·.1)).map enc)) → Q (.ref p) G'
theorem k_words_of (ds : List D) (G : Gp) (Q : DK) (h : spWordsOf ds G Q) : r_words_of spWordsOn { nx := fun _ G' => Q .non G', rt := Q } (startD ["kinds", "found", "turn", "pair", "word", "left"] ds) G := by
  obtain ⟨a, ks, rfl, ha, hn, q⟩ := h
  unfold r_words_of
  walk_at "rd"
  refine ⟨Nat.zero_le _, tup_l ha ⟨sz_of (by decide), sz_of (by decide), fun p0 hp0 => ?_⟩⟩
  have ea := Ext.up (o := .lst [.tup [.tup [], .tup (ks.map D.str)]]) hp0
  refine len_l (ea.lst ha) ?_
  refine ⟨_, rfl, by omega, by rw [Int.toNat_natCast, List.length_map]; exact sz_of (by omega), ?_⟩
  rw [Int.toNat_natCast, List.length_map]
  unfold rgD
  refine forD_map (fun pre env G1 => (∃ p o2 o3 o4 o5, env = [some (.ref a), some (.ref p), o2, o3, o4, o5] ∧ G p = none ∧ G1 p = some (.lst ((wordsN pre.length ks).map enc))) ∧ Ext G G1) ⟨⟨p0, _, _, _, _, rfl, hp0, up_same⟩, ea⟩ (fun env G1 ⟨⟨p, o2, o3, o4, o5, he, hp, h1⟩, e1⟩ => ⟨trivial, ?_⟩) fun pre x post env G1 K hl ⟨⟨p, o2, o3, o4, o5, he, hp, h1⟩, e1⟩ hK => ⟨trivial, ?_⟩
  · subst he
    rw [List.length_range] at h1
    walk_at "rd"
    refine ⟨_, _, .lst (lstAt_lst h1), mapD_map (fun p : Wl => some p.1) (enc (α := Col)) (fun G' e => e.lst (lstAt_lst h1)) (fun p _ G2 R e2 hR => ?_) fun G2 e2 p2 hp2 => ?_⟩
    · walk_at "rd"
      exact ⟨_, rfl, rfl, _, _, rfl, _, _, rfl, rfl, hR G2 (Ext.refl G2)⟩
    · exact q _ p2 ((e1.trans e2).put ((e1.trans e2).fresh hp2)) ((e1.trans e2).fresh hp2) (by rw [up_same]; simp [List.filterMap_eq_map])
  · subst he
    have hlen : pre.length < ks.length := by
      have := congrArg List.length hl
      rw [List.length_range, List.length_append, List.length_cons] at this
      omega
    walk_at "rd"
    refine ⟨_, _, .lst (lstAt_lst h1), outD_map 46656 (fun p : Wl => wordsOn p.1 p.2) (enc (α := Wl)) (fun G' e => e.lst (lstAt_lst h1)) (fun p hpm acc G2 R e2 hB hR => ?_) (wordsN_small hn (t := pre.length + 1) (by omega)) fun G2 e2 p2 hp2 => ?_⟩
    · walk_at "rd"
      obtain ⟨l1, l2⟩ := wordsN_mem hpm
      have l3 := l2.length_eq
      rw [List.length_append] at l3
      refine ⟨_, rfl, rfl, _, _, rfl, _, _, rfl, rfl, ⟨p.1, p.2, rfl, by omega, by omega, fun G3 p3 e3 hp3 h3 => ⟨_, _, .lst (lstAt_lst h3), ?_⟩⟩⟩
      refine mapB_map acc (fun x : Wl => x) (enc (α := Wl)) (fun G' e => e.lst (lstAt_lst h3)) (fun x _ G4 R4 e4 hR4 => ?_) (sz_of (by omega)) fun G4 e4 => by rw [List.map_id']; exact hR G4 (e3.trans e4)
      walk_at "rd"
      exact hR4 G4 (Ext.refl G4)
    · refine hK _ _ ⟨⟨p2, _, _, _, _, rfl, (e1.trans e2).fresh hp2, ?_⟩, (e1.trans e2).put ((e1.trans e2).fresh hp2)⟩
      rw [up_same, List.length_append]
      rfl
/-! ### cut_up -/
def cutUp (w : Col) : Nat → List Nat → List Col
  | _, [] => []
  | at_, n :: r => (w.drop at_).take n :: cutUp w (at_ + n) r
theorem cutUp_app (w : Col) : ∀ (a b : List Nat) (i : Nat), cutUp w i (a ++ b) = cutUp w i a ++ cutUp w (i + a.sum) b
  | [], b, i => rfl
  | n :: a, b, i => by
    rw [List.cons_append, cutUp, cutUp, cutUp_app w a b, List.cons_append, List.sum_cons, Nat.add_assoc]
def natD (n : Nat) : D := .int (n : Int)
def spCutUp : SpD := fun ds G Q => ∃ (a : Addr) (w : Col) (ps : List Nat), ds = [enc w, .ref a] ∧ lstAt G a = some (ps.map natD) ∧ ps.length ≤ 1000 ∧ ∀ G' p, Ext G G' → G p = none → G' p = some (.lst ((cutUp w 0 ps).map enc)) → Q (.ref p) G'
theorem k_cut_up (ds : List D) (G : Gp) (Q : DK) (h : spCutUp ds G Q) : r_cut_up { nx := fun _ G' => Q .non G', rt := Q } (startD ["word", "parts", "found", "at", "many"] ds) G := by
  obtain ⟨a, w, ps, rfl, ha, hn, q⟩ := h
  unfold r_cut_up
  walk_at "rd"
  refine ⟨Nat.zero_le _, fun p hp => ⟨_, _, .lst ((Ext.up hp).lst ha), ?_⟩⟩
  refine forD_map (fun pre env G1 => (∃ o4, env = [some (enc w), some (.ref a), some (.ref p), some (natD pre.sum), o4]) ∧ Ext G G1 ∧ G1 p = some (.lst ((cutUp w 0 pre).map enc))) ⟨⟨_, rfl⟩, Ext.up hp, up_same⟩ (fun env G1 ⟨⟨o4, he⟩, e1, h1⟩ => ⟨e1.lst ha, ?_⟩) fun pre x post env G1 K hl ⟨⟨o4, he⟩, e1, h1⟩ hK => ⟨e1.lst ha, ?_⟩
  · subst he
    walk_at "rd"
    exact q G1 p e1 hp h1
  · subst he
    have hc : (cutUp w 0 pre).length = pre.length := by
      have : ∀ (l : List Nat) i, (cutUp w i l).length = l.length := fun l => by
        induction l with
        | nil => intro _; rfl
        | cons n l ih => intro i; rw [cutUp, List.length_cons, ih, List.length_cons]
      exact this _ _
    have hpl : pre.length ≤ 1000 := by
      have := congrArg List.length hl
      rw [List.length_append, List.length_cons] at this; omega
    walk_at "rd"
    refine ⟨some_lst (lstAt_lst h1), (pre.sum : Int), rfl, add_i ⟨((pre.sum + x : Nat) : Int), by rw [Int.natCast_add], .tup ?_⟩⟩
    rw [cut_mid, ← List.map_drop, ← List.map_take]
    refine app_m h1 (by rw [List.length_map, hc]; omega) ⟨_, rfl, ip_i ?_⟩
    refine hK _ _ ⟨⟨_, by unfold natD; rw [List.sum_append, List.sum_singleton, Int.natCast_add]⟩, e1.put hp, ?_⟩
    rw [up_same, cutUp_app, List.map_append, Nat.zero_add, show pre.sum + x - pre.sum = x by omega]
    rfl
end W81
end
section
set_option Elab.async false
set_option linter.all false
set_option maxRecDepth 100000
set_option maxHeartbeats 4000000
namespace W81
open PySem PySem.Spec PyProof.Rows L2 DL
local macro_rules | `(tactic| walk_at "rd") => `(tactic| simp only [dSeq, dIfS, dOrT, dAndT, dNotT, dTest, dRet, dRetN, dAndV, dOrV, dNotV, dB, dCons, dNil, dC, dVar_iff, dBin, dChain, dAsg, dgName, dgTup, dgCons, dgNil, dCall, dTup, dLst, dNeg, dIf, dDrop, dNext, dYes, turnD, wipeD, dLc, diSeq, dSl, doSome, doNone, dM, dM0, dFor, dOr, dgSub, dIsN, dNotN, dEnum, dRange1, dRange2, dZip, dListZip, dAug, dPar, dRev, dRevL, dZipY, dKeysN, dValsN, dItemsN, dLockE, dLockS, dSetdef, dDNewN, dDNew, dDispN, dDisp, dCallX, dDropX, dRetX, dAsgX, dRaise, dCallL, dCallR, dCallXR, dLc2, turn2, startD, List.map_cons, List.map_nil, List.cons_append, List.nil_append, List.length_cons, List.length_nil, Nat.reduceAdd, Nat.reduceSub, Nat.zero_add, List.reduceReplicate, List.replicate_succ, List.replicate_zero, List.getElem?_cons_zero, List.getElem?_cons_succ, List.set_cons_zero, List.set_cons_succ, if_true])
/-! ### cuts -/
/-- ways to cut -/
structure Comp (n most : Nat) (c : List Nat) : Prop where
  sum : c.sum = n
  pos : ∀ x ∈ c, 0 < x
  len : c.length ≤ most
abbrev AP := Addr × List Nat
def refD (p : AP) : D := .ref p.1
/-- lists of numbers stand there -/
def Held (G : Gp) (p : AP) : Prop := G p.1 = some (.lst (p.2.map natD))
def mu (n : Nat) (st : List AP) : Nat := (st.map fun p => 2 ^ (n - p.2.sum)).sum
theorem mu_app (n : Nat) (a b : List AP) : mu n (a ++ b) = mu n a + mu n b := by
  unfold mu; rw [List.map_append, List.sum_append]
theorem mu_one (n : Nat) (p : AP) : mu n [p] = 2 ^ (n - p.2.sum) := by
  unfold mu; simp
theorem mu_len (n : Nat) : ∀ st : List AP, st.length ≤ mu n st
  | [] => Nat.zero_le _
  | p :: st => by
    have := mu_len n st
    have h2 : 0 < 2 ^ (n - p.2.sum) := Nat.pow_pos (by decide)
    unfold mu at this ⊢
    rw [List.map_cons, List.sum_cons, List.length_cons]
    omega
theorem pow_sum : ∀ L : Nat, ((List.range L).map fun i => 2 ^ (L - (i + 1))).sum + 1 = 2 ^ L
  | 0 => rfl
  | L + 1 => by
    rw [List.range_succ_eq_map, List.map_cons, List.sum_cons, List.map_map]
    have : ((List.range L).map ((fun i => 2 ^ (L + 1 - (i + 1))) ∘ Nat.succ)) = (List.range L).map fun i => 2 ^ (L - (i + 1)) := by
      apply List.map_congr_left
      intro i _
      simp only [Function.comp, Nat.succ_eq_add_one]
      congr 1
      omega
    rw [this]
    have h := pow_sum L
    simp only [Nat.zero_add, Nat.add_sub_cancel]
    rw [Nat.pow_succ]
    omega
structure CutsInv (n most : Nat) (st dn : List AP) : Prop where
  ok : ∀ p ∈ st, p.2.sum ≤ n ∧ (∀ x ∈ p.2, 0 < x) ∧ p.2.length ≤ most
  done : ∀ p ∈ dn, Comp n most p.2
  all : ∀ c, Comp n most c → c ∈ dn.map (·.2) ∨ ∃ p ∈ st, p.2 <+: c
  size : dn.length + mu n st ≤ 2 ^ n
theorem CutsInv.start (n most : Nat) (a : Addr) : CutsInv n most [(a, [])] [] :=
  ⟨fun p hp => by obtain rfl := List.mem_singleton.mp hp; exact ⟨Nat.zero_le _, (fun x hx => by cases hx), Nat.zero_le _⟩, (fun p hp => by cases hp), fun c _ => .inr ⟨_, List.mem_singleton.mpr rfl, List.nil_prefix⟩, by rw [mu_one]; simp⟩
theorem len_sum : ∀ {l : List Nat}, (∀ x ∈ l, 0 < x) → l.length ≤ l.sum
  | [], _ => Nat.le_refl _
  | x :: l, h => by
    have h1 := len_sum fun y hy => h y (List.mem_cons_of_mem _ hy)
    have h2 := h x List.mem_cons_self
    rw [List.length_cons, List.sum_cons]
    omega
theorem sum_nil {r : List Nat} (h : r.sum = 0) (hp : ∀ x ∈ r, 0 < x) : r = [] := by
  cases r with
  | nil => rfl
  | cons x r => have := hp x List.mem_cons_self; rw [List.sum_cons] at h; omega
theorem CutsInv.full {n most : Nat} {st dn : List AP} {p : AP} (h : CutsInv n most (st ++ [p]) dn) (hl : p.2.sum = n) : CutsInv n most st (dn ++ [p]) := by
  obtain ⟨o1, o2, o3⟩ := h.ok p (by simp)
  refine ⟨fun q hq => h.ok q (by simp [hq]), fun q hq => ?_, fun c hc => ?_, ?_⟩
  · rcases List.mem_append.mp hq with hq | hq
    · exact h.done q hq
    · obtain rfl := List.mem_singleton.mp hq; exact ⟨hl, o2, o3⟩
  · rcases h.all c hc with h1 | ⟨q, hq, hpre⟩
    · exact .inl (by simp at h1 ⊢; exact .inl h1)
    · rcases List.mem_append.mp hq with hq | hq
      · exact .inr ⟨q, hq, hpre⟩
      · obtain rfl := List.mem_singleton.mp hq
        obtain ⟨r, rfl⟩ := hpre
        have := hc.sum
        rw [List.sum_append] at this
        have : r = [] := sum_nil (by omega) fun x hx => hc.pos x (by simp [hx])
        subst this
        left; simp
  · have := h.size
    rw [mu_app, mu_one, hl, Nat.sub_self, Nat.pow_zero] at this
    rw [List.length_append, List.length_singleton]
    omega
theorem CutsInv.drop {n most : Nat} {st dn : List AP} {p : AP} (h : CutsInv n most (st ++ [p]) dn) (hl : p.2.sum ≠ n) (hm : ¬ p.2.length < most) : CutsInv n most st dn := by
  refine ⟨fun q hq => h.ok q (by simp [hq]), h.done, fun c hc => ?_, ?_⟩
  · rcases h.all c hc with h1 | ⟨q, hq, hpre⟩
    · exact .inl h1
    · rcases List.mem_append.mp hq with hq | hq
      · exact .inr ⟨q, hq, hpre⟩
      · obtain rfl := List.mem_singleton.mp hq
        obtain ⟨r, rfl⟩ := hpre
        have := hc.len
        rw [List.length_append] at this
        have : r = [] := List.length_eq_zero_iff.mp (by omega)
        subst this
        exact absurd (by simpa using hc.sum) hl
  · have := h.size
    rw [mu_app] at this
    omega
theorem CutsInv.kids {n most : Nat} {st dn ks : List AP} {p : AP} (h : CutsInv n most (st ++ [p]) dn) (hl : p.2.sum ≠ n) (hm : p.2.length < most) (hk : ks.map (·.2) = (List.range (n - p.2.sum)).map fun i => p.2 ++ [i + 1]) : CutsInv n most (st ++ ks) dn := by
  obtain ⟨o1, o2, o3⟩ := h.ok p (by simp)
  have mk : mu n ks + 1 = 2 ^ (n - p.2.sum) := by
    have : ks.map (fun q => 2 ^ (n - q.2.sum)) = (ks.map (·.2)).map fun c => 2 ^ (n - c.sum) := by rw [List.map_map]; rfl
    unfold mu
    rw [this, hk, List.map_map, ← pow_sum]
    congr 2
    apply List.map_congr_left
    intro i _
    simp only [Function.comp, List.sum_append, List.sum_singleton]
    congr 1
    omega
  refine ⟨fun q hq => ?_, h.done, fun c hc => ?_, ?_⟩
  · rcases List.mem_append.mp hq with hq | hq
    · exact h.ok q (by simp [hq])
    · have : q.2 ∈ ks.map (·.2) := List.mem_map_of_mem hq
      rw [hk] at this
      obtain ⟨i, hi, e⟩ := List.mem_map.mp this
      have hi := List.mem_range.mp hi
      rw [← e]
      refine ⟨by rw [List.sum_append, List.sum_singleton]; omega, fun x hx => ?_, by rw [List.length_append, List.length_singleton]; omega⟩
      rcases List.mem_append.mp hx with hx | hx
      · exact o2 x hx
      · rw [List.mem_singleton.mp hx]; omega
  · rcases h.all c hc with h1 | ⟨q, hq, hpre⟩
    · exact .inl h1
    · rcases List.mem_append.mp hq with hq | hq
      · exact .inr ⟨q, by simp [hq], hpre⟩
      · obtain rfl := List.mem_singleton.mp hq
        obtain ⟨r, rfl⟩ := hpre
        cases r with
        | nil => exact absurd (by simpa using hc.sum) hl
        | cons x r =>
          have hs := hc.sum
          rw [List.sum_append, List.sum_cons] at hs
          have hx := hc.pos x (by simp)
          have : q.2 ++ [x] ∈ ks.map (·.2) := by
            rw [hk]
            exact List.mem_map.mpr ⟨x - 1, List.mem_range.mpr (by omega), by rw [show x - 1 + 1 = x by omega]⟩
          obtain ⟨q', hq', e⟩ := List.mem_map.mp this
          exact .inr ⟨q', by simp [hq'], r, by rw [e]; simp⟩
  · have := h.size
    rw [mu_app, mu_one] at this
    rw [mu_app]
    omega
theorem sum_cast : ∀ l : List Nat, (l.map fun n : Nat => (n : Int)).sum = (l.sum : Int)
  | [] => rfl
  | x :: l => by rw [List.map_cons, List.sum_cons, List.sum_cons, sum_cast l, Int.natCast_add]
def spCuts : SpD := fun ds G Q => ∃ n most : Nat, ds = [natD n, natD most] ∧ n ≤ 6 ∧ ∀ G' d (dn : List AP), Ext G G' → G d = none → G' d = some (.lst (dn.map refD)) → (∀ p ∈ dn, Held G' p) → dn.length ≤ 64 → (∀ c, c ∈ dn.map (·.2) ↔ Comp n most c) → Q (.ref d) G'
theorem k_cuts_of (ds : List D) (G : Gp) (Q : DK) (h : spCuts ds G Q) : r_cuts_of { nx := fun _ G' => Q .non G', rt := Q } (startD ["many", "most", "done", "waiting", "parts", "left", "one"] ds) G := by
  obtain ⟨n, most, rfl, hn, q⟩ := h
  unfold r_cuts_of
  walk_at "rd"
  refine ⟨Nat.zero_le _, fun d hd => ⟨Nat.zero_le _, fun a ha => ⟨sz_of (by decide), fun w hw => ?_⟩⟩⟩
  have hda : a ≠ d := fun z => by rw [z, up_same] at ha; cases ha
  have hwa : a ≠ w := fun z => by rw [← z, up_same] at hw; cases hw
  have hdw : d ≠ w := fun z => by rw [← z, up_ne (Ne.symm hda), up_same] at hw; cases hw
  have gw : G w = none := by rw [up_ne (Ne.symm hwa), up_ne (Ne.symm hdw)] at hw; exact hw
  have ga : G a = none := by rw [up_ne hda] at ha; exact ha
  refine dWhile_ind (fun m env G1 => ∃ st dn o4 o5 o6, env = [some (natD n), some (natD most), some (.ref d), some (.ref w), o4, o5, o6] ∧ Ext G G1 ∧ G1 d = some (.lst (dn.map refD)) ∧ G1 w = some (.lst (st.map refD)) ∧
    (∀ p ∈ st ++ dn, p.1 ≠ d ∧ p.1 ≠ w ∧ Held G1 p) ∧ CutsInv n most st dn ∧ m = mu n st) (mu n [(a, [])]) ⟨[(a, [])], [], _, _, _, rfl, (((Ext.up hd).put ga).put gw), ?_, by rw [up_same]; rfl, fun p hp => ?_, CutsInv.start n most a, rfl⟩ fun m env G1 K ⟨st, dn, o4, o5, o6, he, e1, h1, h2, h3, h4, hm⟩ hK => ?_
  · rw [up_ne hdw, up_ne (Ne.symm hda), up_same]; rfl
  · have : p = (a, []) := by simpa using hp
    subst this
    exact ⟨hda, hwa, by unfold Held; rw [up_ne hwa, up_same]; rfl⟩
  · subst he
    have sz := h4.size
    have p64 : 2 ^ n ≤ 64 := Nat.pow_le_pow_right (show 0 < 2 by decide) hn
    have mul := mu_len n st
    walk_at "rd"
    refine ⟨Nat.zero_le _, fun e he => ne_nil (lstAt_lst (up_get h2 he)) lst_up ⟨_, rfl, ?_⟩⟩
    have e2 : Ext G1 (up G1 e (.lst [])) := Ext.up he
    obtain ⟨G2, hG2⟩ : ∃ g, g = up G1 e (.lst []) := ⟨_, rfl⟩
    rw [← hG2] at e2 ⊢
    rcases List.eq_nil_or_concat st with rfl | ⟨st', p, rfl⟩
    · rw [List.map_nil, List.isEmpty_nil, if_neg (by decide)]
      refine q G2 d dn (e1.trans e2) hd (e2 d _ h1) (fun p hp => e2 _ _ (h3 p (by simpa using hp)).2.2) (by omega) fun c => ⟨fun hc => ?_, fun hc => ?_⟩
      · obtain ⟨p, hp, rfl⟩ := List.mem_map.mp hc
        exact h4.done p hp
      · rcases h4.all c hc with h | ⟨p, hp, _⟩
        · exact h
        · cases hp
    · rw [List.concat_eq_append] at *
      rw [List.map_append, if_pos (by simp)]
      obtain ⟨n1, n2, hh⟩ := h3 p (by simp)
      have g2 := e2 w _ h2
      refine ⟨some_lst (lstAt_lst g2), w, st'.map refD, refD p, rfl, rfl, by rw [g2, List.map_append]; rfl, ?_⟩
      obtain ⟨G3, hG3⟩ : ∃ g, g = up G2 w (.lst (st'.map refD)) := ⟨_, rfl⟩
      rw [← hG3]
      have e3 : Ext G G3 := by rw [hG3]; exact (e1.trans e2).put gw
      have d3 : G3 d = some (.lst (dn.map refD)) := by rw [hG3, up_ne hdw]; exact e2 d _ h1
      have w3 : G3 w = some (.lst (st'.map refD)) := by rw [hG3, up_same]
      have all3 : ∀ r ∈ st' ++ [p] ++ dn, r.1 ≠ d ∧ r.1 ≠ w ∧ Held G3 r := fun r hr => by
        obtain ⟨a1, a2, a3⟩ := h3 r hr
        exact ⟨a1, a2, by unfold Held; rw [hG3, up_ne a2]; exact e2 _ _ a3⟩
      have p3 := (all3 p (by simp)).2.2
      obtain ⟨o1, o2, o3⟩ := h4.ok p (by simp)
      refine ⟨p.1, p.2.map fun n : Nat => (n : Int), rfl, by rw [lstAt_lst p3, List.map_map]; rfl, sub_i ?_⟩
      rw [sum_cast]
      refine eqE ((n : Int) - (p.2.sum : Int)) 0 ⟨_, rfl, ?_⟩
      have mlt : ∀ s : List AP, mu n s + 1 ≤ 2 ^ (n - p.2.sum) → mu n (st' ++ s) < m := fun s hs => by
        rw [hm, mu_app, mu_app, mu_one]; omega
      by_cases hz : p.2.sum = n
      · rw [if_pos (by simp; omega)]
        refine ⟨some_lst (lstAt_lst d3), app_m d3 (by rw [List.length_map]; omega) ?_⟩
        refine hK (mu n st') _ _ ?_ ⟨st', dn ++ [p], _, _, _, rfl, e3.put hd, by rw [up_same, List.map_append]; rfl, by rw [up_ne (Ne.symm hdw)]; exact w3, fun r hr => ?_, h4.full hz, rfl⟩
        · have := mlt [] (by show 0 + 1 ≤ _; exact Nat.pow_pos (by decide))
          simpa using this
        · have : r ∈ st' ++ [p] ++ dn := by
            rcases List.mem_append.mp hr with h | h
            · simp [h]
            · rcases List.mem_append.mp h with h | h
              · simp [h]
              · simp [List.mem_singleton.mp h]
          obtain ⟨a1, a2, a3⟩ := all3 r this
          exact ⟨a1, a2, by unfold Held; rw [up_ne a1]; exact a3⟩
      · rw [if_neg (by simp; omega)]
        refine len_l (lstAt_lst p3) (lt_i ⟨_, rfl, ?_⟩)
        rw [List.length_map]
        by_cases hmost : p.2.length < most
        · rw [if_pos (by simpa using hmost)]
          have eL : (n : Int) - (p.2.sum : Int) = ((n - p.2.sum : Nat) : Int) := by omega
          rw [eL]
          obtain ⟨L, hL⟩ : ∃ L, L = n - p.2.sum := ⟨_, rfl⟩
          rw [← hL]
          refine ⟨some_lst (lstAt_lst w3), add_i ⟨1, (L : Int) + 1, rfl, by omega, ?_, ?_⟩⟩
          · rw [show ((L : Int) + 1 - 1).toNat = L by omega]
            exact sz_of (by omega)
          rw [show ((L : Int) + 1 - 1).toNat = L by omega]
          refine mapD_rel (f := fun i : Nat => D.int (1 + (i : Nat))) (l := List.range L) (fun pre acc G4 => ∃ ks : List AP, acc = ks.map refD ∧ ks.map (·.2) = pre.map (fun i => p.2 ++ [i + 1]) ∧ Ext G3 G4 ∧ ∀ r ∈ ks, r.1 ≠ d ∧ r.1 ≠ w ∧ Held G4 r) ⟨[], rfl, rfl, Ext.refl _, (fun r hr => by cases hr)⟩ (fun _ _ _ _ => trivial) (fun pre x post acc G4 R hl ⟨ks, h5, h6, e4, h7⟩ hR => ?_) fun acc G4 ⟨ks, h5, h6, e4, h7⟩ p5 hp5 => ?_
          · walk_at "rd"
            refine ⟨sz_of (by decide), fun v hv => ?_⟩
            have px := e4 _ _ p3
            have e5 : Ext G4 (up G4 v (.lst [.int (1 + (x : Nat))])) := Ext.up hv
            have lp := len_sum o2
            refine add_l (e5 _ _ px) up_same (by rw [List.length_map]; exact sz_of (by simp; omega)) fun r hr => ?_
            have e6 := e5.put (o := .lst (p.2.map natD ++ [.int (1 + (x : Nat))])) (e5.fresh hr)
            refine hR _ _ ⟨ks ++ [(r, p.2 ++ [x + 1])], by rw [h5, List.map_append]; rfl, by rw [List.map_append, h6, List.map_append]; rfl, e4.trans e6, fun c hc => ?_⟩
            rcases List.mem_append.mp hc with hc | hc
            · obtain ⟨a1, a2, a3⟩ := h7 c hc
              exact ⟨a1, a2, e6 _ _ a3⟩
            · obtain rfl := List.mem_singleton.mp hc
              have q3 := (e4.trans e5).fresh hr
              refine ⟨(fun z => by rw [show r = d from z, d3] at q3; cases q3), (fun z => by rw [show r = w from z, w3] at q3; cases q3), ?_⟩
              unfold Held
              rw [up_same, List.map_append]
              congr 4
              unfold natD
              rw [Int.natCast_add, Int.add_comm]; rfl
          · have e5 := e4.put (o := .lst acc) (e4.fresh hp5)
            have nl : ks.length = L := by
              have := congrArg List.length h6
              simpa using this
            have w5 := e5 w _ w3
            refine ext_m w5 up_same (by rw [h5, List.length_map, List.length_map]; simp at mul; omega) ?_
            refine hK (mu n (st' ++ ks)) _ _ ?_ ⟨st' ++ ks, dn, _, _, _, rfl, (e3.trans e5).put gw, by rw [up_ne hdw]; exact e5 d _ d3, by rw [up_same, h5, List.map_append], fun r hr => ?_, h4.kids hz hmost (by rw [h6, hL]), rfl⟩
            · refine mlt ks ?_
              have hk : ks.map (·.2) = (List.range (n - p.2.sum)).map fun i => p.2 ++ [i + 1] := by rw [h6, hL]
              have : ks.map (fun q => 2 ^ (n - q.2.sum)) = (ks.map (·.2)).map fun c => 2 ^ (n - c.sum) := by rw [List.map_map]; rfl
              unfold mu
              rw [this, hk, List.map_map, ← pow_sum (n - p.2.sum)]
              refine Nat.le_of_eq ?_
              congr 2
              apply List.map_congr_left
              intro i _
              simp only [Function.comp, List.sum_append, List.sum_singleton]
              congr 1
              omega
            · have keep : ∀ r : AP, r.1 ≠ w → Held G3 r → Held (up (up G4 p5 (.lst acc)) w (.lst (st'.map refD ++ acc))) r := fun r hn hh => by
                unfold Held
                rw [up_ne hn]
                exact e5 _ _ hh
              rcases List.mem_append.mp hr with h | h
              · rcases List.mem_append.mp h with h | h
                · obtain ⟨a1, a2, a3⟩ := all3 r (by simp [h])
                  exact ⟨a1, a2, keep r a2 a3⟩
                · obtain ⟨a1, a2, a3⟩ := h7 r h
                  refine ⟨a1, a2, ?_⟩
                  unfold Held
                  rw [up_ne a2]
                  exact up_get a3 hp5
              · obtain ⟨a1, a2, a3⟩ := all3 r (by simp [h])
                exact ⟨a1, a2, keep r a2 a3⟩
        · rw [if_neg (by simpa using hmost)]
          refine hK (mu n st') _ _ ?_ ⟨st', dn, _, _, _, rfl, e3, d3, w3, fun r hr => all3 r (by rcases List.mem_append.mp hr with h | h <;> simp [h]), h4.drop hz hmost, rfl⟩
          have := mlt [] (by show 0 + 1 ≤ _; exact Nat.pow_pos (by decide))
          simpa using this
end W81
end
section
set_option Elab.async false
set_option linter.all false
set_option maxRecDepth 100000
set_option maxHeartbeats 4000000
namespace W81
open PySem PySem.Spec PyProof.Rows L2 DL
local macro_rules | `(tactic| walk_at "rd") => `(tactic| simp only [dSeq, dIfS, dOrT, dAndT, dNotT, dTest, dRet, dRetN, dAndV, dOrV, dNotV, dB, dCons, dNil, dC, dVar_iff, dBin, dChain, dAsg, dgName, dgTup, dgCons, dgNil, dCall, dTup, dLst, dNeg, dIf, dDrop, dNext, dYes, turnD, wipeD, dLc, diSeq, dSl, doSome, doNone, dM, dM0, dFor, dOr, dgSub, dIsN, dNotN, dEnum, dRange1, dRange2, dZip, dListZip, dAug, dPar, dRev, dRevL, dZipY, dKeysN, dValsN, dItemsN, dLockE, dLockS, dSetdef, dDNewN, dDNew, dDispN, dDisp, dCallX, dDropX, dRetX, dAsgX, dRaise, dCallL, dCallR, dCallXR, dLc2, turn2, startD, List.map_cons, List.map_nil, List.cons_append, List.nil_append, List.length_cons, List.length_nil, Nat.reduceAdd, Nat.reduceSub, Nat.zero_add, List.reduceReplicate, List.replicate_succ, List.replicate_zero, List.getElem?_cons_zero, List.getElem?_cons_succ, List.set_cons_zero, List.set_cons_succ, if_true])
/-! ### all yards -/
/-- the yards of some kinds in at most so many columns -/
structure IsYd (ks : Col) (most : Nat) (y : Yrd) : Prop where
  pw : y.Pairwise (leE · ·)
  ne : ∀ c ∈ y, c ≠ []
  kinds : y.flatten.Perm ks
  len : y.length ≤ most
theorem cutUp_flat (w : Col) : ∀ (c : List Nat) (i : Nat), i + c.sum = w.length → (cutUp w i c).flatten = w.drop i
  | [], i, h => by rw [cutUp, List.flatten_nil, List.drop_of_length_le (by simp at h; omega)]
  | n :: c, i, h => by
    rw [List.sum_cons] at h
    rw [cutUp, List.flatten_cons, cutUp_flat w c (i + n) (by omega), ← List.drop_drop, List.take_append_drop]
theorem cutUp_ne (w : Col) : ∀ (c : List Nat) (i : Nat), i + c.sum = w.length → (∀ x ∈ c, 0 < x) → ∀ d ∈ cutUp w i c, d ≠ []
  | [], i, h, _, d, hd => by cases hd
  | n :: c, i, h, hp, d, hd => by
    rw [List.sum_cons] at h
    rw [cutUp] at hd
    rcases List.mem_cons.mp hd with rfl | hd
    · intro z
      have := congrArg List.length z
      rw [List.length_take, List.length_drop, List.length_nil] at this
      have := hp n List.mem_cons_self
      omega
    · exact cutUp_ne w c (i + n) (by omega) (fun x hx => hp x (List.mem_cons_of_mem _ hx)) d hd
theorem cutUp_len (w : Col) : ∀ (c : List Nat) (i : Nat), (cutUp w i c).length = c.length
  | [], _ => rfl
  | n :: c, i => by rw [cutUp, List.length_cons, cutUp_len w c, List.length_cons]
theorem cutUp_back (u : Col) : ∀ (y : Yrd), cutUp (u ++ y.flatten) u.length (y.map List.length) = y
  | [] => rfl
  | c :: y => by
    rw [List.map_cons, cutUp, List.flatten_cons, List.drop_left, List.take_left]
    have := cutUp_back (u ++ c) y
    rw [List.length_append, List.append_assoc] at this
    rw [this]
theorem filter_ne {l : Yrd} (h : ∀ c ∈ l, c ≠ []) : (l.filter fun c => decide (c ≠ [])) = l := List.filter_eq_self.mpr fun c hc => by simpa using h c hc
theorem laid_ne {l : Yrd} (h : ∀ c ∈ l, c ≠ []) : laidC l = srt l := by unfold laidC; rw [filter_ne h]
theorem isYd_iff {ks : Col} {most : Nat} {y : Yrd} : (∃ c w, Comp ks.length most c ∧ w ∈ (wordsN ks.length ks).map (·.1) ∧ y = laidC (cutUp w 0 c)) ↔ IsYd ks most y := by
  constructor
  · rintro ⟨c, w, hc, hw, rfl⟩
    obtain ⟨p, hp, rfl⟩ := List.mem_map.mp hw
    obtain ⟨h1, h2⟩ := wordsN_mem hp
    have l2 := h2.length_eq
    rw [List.length_append] at l2
    have e2 : p.2 = [] := List.length_eq_zero_iff.mp (by omega)
    rw [e2, List.append_nil] at h2
    have hs : 0 + c.sum = p.1.length := by rw [hc.sum]; omega
    have ne := cutUp_ne p.1 c 0 hs hc.pos
    rw [laid_ne ne]
    refine ⟨srt_pw _, fun d hd => ne d (mem_srt.mp hd), ?_, by rw [srt_len, cutUp_len]; exact hc.len⟩
    have := (srt_perm (cutUp p.1 0 c)).flatten
    rw [cutUp_flat p.1 c 0 hs] at this
    exact this.trans h2
  · intro h
    have back := cutUp_back [] y
    rw [List.nil_append, List.length_nil] at back
    refine ⟨y.map List.length, y.flatten, ⟨?_, fun x hx => ?_, by rw [List.length_map]; exact h.len⟩, ?_, ?_⟩
    · rw [← List.length_flatten]; exact h.kinds.length_eq
    · obtain ⟨c, hc, rfl⟩ := List.mem_map.mp hx
      exact List.length_pos_iff.mpr (h.ne c hc)
    · obtain ⟨p, hp, e, _⟩ := wordsN_has (t := ks.length) (ks := ks) (w := y.flatten) (r := []) h.kinds.length_eq (by rw [List.append_nil]; exact h.kinds)
      exact List.mem_map.mpr ⟨p, hp, e⟩
    · rw [back, laid_ne h.ne, srt_self h.pw]
/-- the list of all of them, ascending -/
structure AllYd (ks : Col) (most : Nat) (ys : List Yrd) : Prop where
  pw : ys.Pairwise (leE · ·)
  nodup : ys.Nodup
  mem : ∀ y, y ∈ ys ↔ IsYd ks most y
theorem AllYd.unique {ks : Col} {most : Nat} {ys zs : List Yrd} (h : AllYd ks most ys) (k : AllYd ks most zs) : ys = zs := pw_unique h.pw k.pw (nodup_perm h.nodup k.nodup fun y => (h.mem y).trans (k.mem y).symm)
theorem AllYd.perm {ks ls : Col} {most : Nat} {ys : List Yrd} (h : AllYd ks most ys) (p : ks.Perm ls) : AllYd ls most ys := ⟨h.pw, h.nodup, fun y => (h.mem y).trans ⟨fun z => ⟨z.pw, z.ne, z.kinds.trans p, z.len⟩, fun z => ⟨z.pw, z.ne, z.kinds.trans p.symm, z.len⟩⟩⟩
theorem isYd_ne {ks : Col} {most : Nat} {y : Yrd} (h : IsYd ks most y) (hk : ks ≠ []) : y ≠ [] := fun z => by
  rw [z] at h
  exact hk h.kinds.symm.eq_nil
def spYardsOf : SpD := fun ds G Q => ∃ (a : Addr) (ks : Col) (most : Nat), ds = [.ref a, natD most] ∧ lstAt G a = some (ks.map D.str) ∧ ks.length ≤ 6 ∧ ks ≠ [] ∧ ∀ G' p ys, Ext G G' → G p = none → G' p = some (.lst (ys.map enc)) → AllYd ks most ys → ys.length ≤ 50000 → Q (.ref p) G'
theorem k_yards_of (ds : List D) (G : Gp) (Q : DK) (h : spYardsOf ds G Q) : r_yards_of spCuts spWordsOf spCutUp spLaid { nx := fun _ G' => Q .non G', rt := Q } (startD ["kinds", "most", "known", "parts", "word"] ds) G := by
  obtain ⟨a, ks, most, rfl, ha, hn, hne, q⟩ := h
  unfold r_yards_of
  walk_at "rd"
  refine .inl fun k hk => ?_
  have ha1 := (Ext.up (o := .dn []) hk).lst ha
  refine len_l ha1 ?_
  rw [List.length_map]
  refine ⟨ks.length, most, rfl, hn, fun G1 d dn e1 hd h1 h2 h3 h4 => ⟨_, _, .lst (lstAt_lst h1), ?_⟩⟩
  have k1 := e1 k _ up_same
  have dk : d ≠ k := fun z => by rw [z, k1] at h1; cases h1
  have pk : ∀ p ∈ dn, p.1 ≠ k := fun p hp z => by
    have := h2 p hp
    unfold Held at this
    rw [z, k1] at this; cases this
  have e01 : Ext G G1 := Ext.under hk e1
  refine forD_map (fun pre env G2 => (∃ o3 o4, env = [some (.ref a), some (natD most), some (.ref k), o3, o4]) ∧ Ext G G2 ∧ ExtE k G1 G2 ∧ ∃ m : List (Yrd × D), G2 k = some (.dn (encM m)) ∧ (m.map (·.1)).Nodup ∧ m.length ≤ pre.length * 720 ∧
      ∀ y, y ∈ m.map (·.1) ↔ ∃ c w, c ∈ pre.map (·.2) ∧ w ∈ (wordsN ks.length ks).map (·.1) ∧ y = laidC (cutUp w 0 c))
    ⟨⟨_, _, rfl⟩, e01, ExtE.refl _ _, [], k1, List.nodup_nil, Nat.zero_le _, fun y => ⟨fun h => by simp at h, fun ⟨c, w, hc, _⟩ => by simp at hc⟩⟩
    (fun env G2 ⟨⟨o3, o4, he⟩, e2, x2, m, hm, hnd, hml, hmm⟩ => ⟨x2.lst dk (lstAt_lst h1), ?_⟩) fun pre x post env G2 K hl ⟨⟨o3, o4, he⟩, e2, x2, m, hm, hnd, hml, hmm⟩ hK => ⟨x2.lst dk (lstAt_lst h1), ?_⟩
  · subst he
    have iff : ∀ y, y ∈ m.map (·.1) ↔ IsYd ks most y := fun y => by
      rw [hmm, ← isYd_iff]
      constructor
      · rintro ⟨c, w, hc, hw, e⟩; exact ⟨c, w, (h4 c).mp hc, hw, e⟩
      · rintro ⟨c, w, hc, hw, e⟩; exact ⟨c, w, (h4 c).mpr hc, hw, e⟩
    walk_at "rd"
    refine sorted_n (dnl_of hm) (srt1_lists fun y hy => isYd_ne ((iff y).mp hy) hne) fun p hp => ?_
    refine q _ p _ (e2.put (e2.fresh hp)) (e2.fresh hp) up_same ⟨srt_pw _, (srt_perm _).nodup_iff.mpr hnd, fun y => by rw [mem_srt]; exact iff y⟩ ?_
    rw [srt_len, List.length_map]
    have : dn.length * 720 ≤ 64 * 720 := Nat.mul_le_mul_right _ h3
    omega
  · subst he
    have hpl : pre.length ≤ 63 := by
      have := congrArg List.length hl
      rw [List.length_append, List.length_cons] at this; omega
    have hxm : x ∈ dn := by rw [hl]; simp
    have hcx := (h4 x.2).mp (List.mem_map_of_mem hxm)
    have lx := len_sum hcx.pos
    rw [hcx.sum] at lx
    walk_at "rd"
    refine ⟨a, ks, rfl, e2.lst ha, hn, fun G3 pw e3 hpw h5 => ⟨_, _, .lst (lstAt_lst h5), ?_⟩⟩
    have kpw : pw ≠ k := fun z => by rw [z, hm] at hpw; cases hpw
    refine forD_map (fun pre2 env G4 => (∃ o4, env = [some (.ref a), some (natD most), some (.ref k), some (refD x), o4]) ∧ Ext G G4 ∧ ExtE k G3 G4 ∧ ∃ m2 : List (Yrd × D), G4 k = some (.dn (encM m2)) ∧ (m2.map (·.1)).Nodup ∧ m2.length ≤ m.length + pre2.length ∧
        ∀ y, y ∈ m2.map (·.1) ↔ y ∈ m.map (·.1) ∨ ∃ w ∈ pre2, y = laidC (cutUp w 0 x.2))
      ⟨⟨_, rfl⟩, e2.trans e3, ExtE.refl _ _, m, e3 _ _ hm, hnd, Nat.le_refl _, fun y => ⟨.inl, fun h => h.elim id fun ⟨w, hw, _⟩ => by cases hw⟩⟩
      (fun env G4 ⟨⟨o4, he⟩, e4, x4, m2, hm2, hnd2, hml2, hmm2⟩ => ⟨x4.lst kpw (lstAt_lst h5), ?_⟩) fun pre2 w post2 env G4 K2 hl2 ⟨⟨o4, he⟩, e4, x4, m2, hm2, hnd2, hml2, hmm2⟩ hK2 => ⟨x4.lst kpw (lstAt_lst h5), ?_⟩
    · refine hK _ _ ⟨⟨_, _, he⟩, e4, x2.trans (e3.e.trans x4), m2, hm2, hnd2, ?_, fun y => ?_⟩
      · have := wordsN_720 hn
        rw [List.length_map] at hml2
        rw [List.length_append, List.length_singleton, Nat.add_mul]
        omega
      · rw [hmm2, hmm]
        constructor
        · rintro (⟨c, w, hc, hw, e⟩ | ⟨w, hw, e⟩)
          · exact ⟨c, w, by simp at hc ⊢; exact .inl hc, hw, e⟩
          · exact ⟨x.2, w, by simp, hw, e⟩
        · rintro ⟨c, w, hc, hw, e⟩
          rw [List.map_append, List.mem_append] at hc
          rcases hc with hc | hc
          · exact .inl ⟨c, w, hc, hw, e⟩
          · have : c = x.2 := by simpa using hc
            rw [this] at e
            exact .inr ⟨w, hw, e⟩
    · subst he
      have hww : w ∈ (wordsN ks.length ks).map (·.1) := by rw [hl2]; simp
      have hp2 : pre2.length ≤ 720 := by
        have h7 := wordsN_720 hn
        have := congrArg List.length hl2
        rw [List.length_map, List.length_append, List.length_cons] at this
        omega
      have hx4 : Held G4 x := x4 _ _ (pk x hxm) (e3 _ _ (x2 _ _ (pk x hxm) (h2 x hxm)))
      walk_at "rd"
      refine ⟨x.1, w, x.2, rfl, lstAt_lst hx4, by omega, fun G5 p5 e5 hp5 h5' => ⟨p5, _, rfl, lstAt_lst h5', fun G6 e6 => ?_⟩⟩
      have e46 := e5.trans e6
      have hm46 := e46 _ _ hm2
      refine set_n (laidC (cutUp w 0 x.2)) hm46 rfl (tup_of_list _) ?_ ?_
      · have : pre.length * 720 ≤ 63 * 720 := Nat.mul_le_mul_right _ hpl
        omega
      · refine hK2 _ _ ⟨⟨_, rfl⟩, (e4.trans e46).put hk, (x4.trans e46.e).put, _, up_same, put_nodup hnd2, Nat.le_trans put_len (by rw [List.length_append, List.length_singleton]; omega), fun y => ?_⟩
        rw [put_mem, hmm2]
        constructor
        · rintro (h | h | ⟨w', hw', e⟩)
          · exact .inr ⟨w, by simp, h⟩
          · exact .inl h
          · exact .inr ⟨w', by simp [hw'], e⟩
        · rintro (h | ⟨w', hw', e⟩)
          · exact .inr (.inl h)
          · rcases List.mem_append.mp hw' with hw' | hw'
            · exact .inr (.inr ⟨w', hw', e⟩)
            · exact .inl (by rw [List.mem_singleton.mp hw'] at e; exact e)
end W81
end
section
set_option Elab.async false
set_option linter.all false
set_option maxRecDepth 100000
set_option maxHeartbeats 4000000
namespace W81
open PySem PySem.Spec PyProof.Rows L2 DL
local macro_rules | `(tactic| walk_at "rd") => `(tactic| simp only [dSeq, dIfS, dOrT, dAndT, dNotT, dTest, dRet, dRetN, dAndV, dOrV, dNotV, dB, dCons, dNil, dC, dVar_iff, dBin, dChain, dAsg, dgName, dgTup, dgCons, dgNil, dCall, dTup, dLst, dNeg, dIf, dDrop, dNext, dYes, turnD, wipeD, dLc, diSeq, dSl, doSome, doNone, dM, dM0, dFor, dOr, dgSub, dIsN, dNotN, dEnum, dRange1, dRange2, dZip, dListZip, dAug, dPar, dRev, dRevL, dZipY, dKeysN, dValsN, dItemsN, dLockE, dLockS, dSetdef, dDNewN, dDNew, dDispN, dDisp, dCallX, dDropX, dRetX, dAsgX, dRaise, dCallL, dCallR, dCallXR, dLc2, turn2, startD, List.map_cons, List.map_nil, List.cons_append, List.nil_append, List.length_cons, List.length_nil, Nat.reduceAdd, Nat.reduceSub, Nat.zero_add, List.reduceReplicate, List.replicate_succ, List.replicate_zero, List.getElem?_cons_zero, List.getElem?_cons_succ, List.set_cons_zero, List.set_cons_succ, if_true])
/-! ### lots of yards by their forms -/
abbrev Lot := (Yrd × Addr) × List Yrd
def dictL (gs : List Lot) : List (Yrd × D) := gs.map fun g => (g.1.1, D.ref g.1.2)
structure Lots (G : Gp) (k : Addr) (gs : List Lot) : Prop where
  dict : G k = some (.dn (encM (dictL gs)))
  keys : (gs.map (·.1.1)).Nodup
  adr : (gs.map (·.1.2)).Nodup
  ne : ∀ g ∈ gs, g.1.2 ≠ k
  val : ∀ g ∈ gs, G g.1.2 = some (.lst (g.2.map enc))
theorem Lots.ext {G G' : Gp} {k : Addr} {gs : List Lot} (h : Lots G k gs) (x : Ext G G') : Lots G' k gs := ⟨x _ _ h.dict, h.keys, h.adr, h.ne, fun g hg => x _ _ (h.val g hg)⟩
theorem dictL_keys (gs : List Lot) : (dictL gs).map (·.1) = gs.map (·.1.1) := by
  unfold dictL; rw [List.map_map]; rfl
theorem Lots.start {G : Gp} {k : Addr} : Lots (up G k (.dn [])) k [] := ⟨up_same, List.nodup_nil, List.nodup_nil, (fun g hg => by cases hg), fun g hg => by cases hg⟩
/-- a new form -/
theorem Lots.new {G : Gp} {k q : Addr} {gs : List Lot} {f : Yrd} (h : Lots G k gs) (hf : f ∉ gs.map (·.1.1)) (hq : G q = none) : Lots (up (up G q (.lst [])) k (.dn (encM (putA (dictL gs) f (.ref q))))) k (gs ++ [((f, q), [])]) := by
  have kq : k ≠ q := ne_of h.dict hq
  refine ⟨?_, ?_, ?_, fun g hg => ?_, fun g hg => ?_⟩
  · rw [up_same]
    congr 3
    unfold putA
    rw [if_neg (fun z => hf (by rw [← dictL_keys]; exact look_some.mp z))]
    unfold dictL
    rw [List.map_append]
    rfl
  · rw [List.map_append]
    exact List.nodup_append.mpr ⟨h.keys, by simp, fun x hx y hy z => hf (by
      rw [List.map_singleton, List.mem_singleton] at hy
      have e : x = f := z.trans hy
      rw [← e]; exact hx)⟩
  · rw [List.map_append]
    refine List.nodup_append.mpr ⟨h.adr, by simp, fun x hx y hy z => ?_⟩
    rw [List.map_singleton, List.mem_singleton] at hy
    rw [hy] at z
    obtain ⟨g, hg, e⟩ := List.mem_map.mp hx
    have := h.val g hg
    rw [e, z, show (((f, q), ([] : List Yrd)).1.2) = q from rfl, hq] at this
    cases this
  · rcases List.mem_append.mp hg with hg | hg
    · exact h.ne g hg
    · rw [List.mem_singleton.mp hg]; exact Ne.symm kq
  · rcases List.mem_append.mp hg with hg | hg
    · rw [up_ne (h.ne g hg)]
      exact up_get (h.val g hg) hq
    · rw [List.mem_singleton.mp hg]
      show up _ k _ q = _
      rw [up_ne (Ne.symm kq), up_same]
      rfl
def appL (f one : Yrd) (gs : List Lot) : List Lot := gs.map fun g => if g.1.1 = f then (g.1, g.2 ++ [one]) else g
theorem appL_fst (f one : Yrd) (gs : List Lot) : (appL f one gs).map (·.1) = gs.map (·.1) := by
  unfold appL
  rw [List.map_map]
  apply List.map_congr_left
  intro g _
  simp only [Function.comp]
  split <;> rfl
theorem nodup_inj {β γ : Type} {f : β → γ} : ∀ {l : List β}, (l.map f).Nodup → ∀ a ∈ l, ∀ b ∈ l, f a = f b → a = b
  | [], _, a, ha, _, _, _ => by cases ha
  | x :: l, h, a, ha, b, hb, e => by
    rw [List.map_cons, List.nodup_cons] at h
    rcases List.mem_cons.mp ha with h1 | h1
    · rcases List.mem_cons.mp hb with h2 | h2
      · rw [h1, h2]
      · exact absurd (by rw [← h1, e]; exact List.mem_map_of_mem h2) h.1
    · rcases List.mem_cons.mp hb with h2 | h2
      · exact absurd (by rw [← h2, ← e]; exact List.mem_map_of_mem h1) h.1
      · exact nodup_inj h.2 a h1 b h2 e
/-- one more of a form -/
theorem Lots.app {G : Gp} {k : Addr} {gs : List Lot} {one : Yrd} {g : Lot} (h : Lots G k gs) (hg : g ∈ gs) : Lots (up G g.1.2 (.lst (g.2.map enc ++ [enc one]))) k (appL g.1.1 one gs) := by
  have e := appL_fst g.1.1 one gs
  have e1 : (appL g.1.1 one gs).map (·.1.1) = gs.map (·.1.1) := by
    have := congrArg (List.map (·.1)) e
    rwa [List.map_map, List.map_map] at this
  have e2 : (appL g.1.1 one gs).map (·.1.2) = gs.map (·.1.2) := by
    have := congrArg (List.map (·.2)) e
    rwa [List.map_map, List.map_map] at this
  refine ⟨?_, by rw [e1]; exact h.keys, by rw [e2]; exact h.adr, fun c hc => ?_, fun c hc => ?_⟩
  · rw [up_ne (Ne.symm (h.ne g hg)), h.dict]
    congr 3
    have := congrArg (List.map fun x : Yrd × Addr => (x.1, D.ref x.2)) e
    rw [List.map_map, List.map_map] at this
    exact this.symm
  · obtain ⟨d, hd, rfl⟩ := List.mem_map.mp hc
    by_cases z : d.1.1 = g.1.1
    · rw [if_pos z]; exact h.ne d hd
    · rw [if_neg z]; exact h.ne d hd
  · obtain ⟨d, hd, rfl⟩ := List.mem_map.mp hc
    by_cases z : d.1.1 = g.1.1
    · have : d = g := nodup_inj h.keys d hd g hg z
      subst this
      rw [if_pos rfl]
      show up G d.1.2 _ d.1.2 = _
      rw [up_same, List.map_append]
      rfl
    · rw [if_neg z]
      have ne : d.1.2 ≠ g.1.2 := fun e => z (congrArg (·.1.1) (nodup_inj h.adr d hd g hg e))
      rw [up_ne ne]
      exact h.val d hd
/-- the lots in plain Lean -/
abbrev Gr := List (Yrd × List Yrd)
def ensG (f : Yrd) (l : Gr) : Gr := if f ∈ l.map (·.1) then l else l ++ [(f, [])]
def appG (f one : Yrd) (l : Gr) : Gr := l.map fun g => if g.1 = f then (g.1, g.2 ++ [one]) else g
def addG (l : Gr) (one : Yrd) : Gr := appG (setOut one) one (ensG (setOut one) l)
def groups (ys : List Yrd) : Gr := ys.foldl addG []
def bare (gs : List Lot) : Gr := gs.map fun g => (g.1.1, g.2)
theorem bare_keys (gs : List Lot) : (bare gs).map (·.1) = gs.map (·.1.1) := by
  unfold bare; rw [List.map_map]; rfl
theorem bare_app (f one : Yrd) (gs : List Lot) : bare (appL f one gs) = appG f one (bare gs) := by
  unfold bare appL appG
  rw [List.map_map, List.map_map]
  apply List.map_congr_left
  intro g _
  simp only [Function.comp]
  split <;> rfl
theorem groups_snoc (ys : List Yrd) (y : Yrd) : groups (ys ++ [y]) = addG (groups ys) y := by
  unfold groups; rw [List.foldl_append]; rfl
structure GrOk (ys : List Yrd) (l : Gr) : Prop where
  ne : ∀ g ∈ l, g.2 ≠ []
  sub : ∀ g ∈ l, g.2.Sublist ys
  len : l.length ≤ ys.length
theorem groups_ok (ys : List Yrd) : GrOk ys (groups ys) := by
  have key : ∀ ys : List Yrd, (∀ g ∈ groups ys, g.2 ≠ [] ∧ g.2.Sublist ys) ∧ (groups ys).length ≤ ys.length := by
    refine snoc_ind ⟨(fun g hg => by cases hg), Nat.le_refl _⟩ fun ys y ih => ?_
    · obtain ⟨h1, h2⟩ := ih
      rw [groups_snoc]
      constructor
      · intro g hg
        obtain ⟨d, hd, rfl⟩ := List.mem_map.mp hg
        have hd' : (d.1 ∈ (groups ys).map (·.1) ∧ d ∈ groups ys) ∨ d = (setOut y, []) := by
          unfold ensG at hd
          split at hd
          · exact .inl ⟨List.mem_map_of_mem hd, hd⟩
          · rcases List.mem_append.mp hd with hd | hd
            · exact .inl ⟨List.mem_map_of_mem hd, hd⟩
            · exact .inr (List.mem_singleton.mp hd)
        split
        · refine ⟨by simp, ?_⟩
          rcases hd' with ⟨_, h⟩ | h
          · exact (h1 d h).2.append (List.Sublist.refl _)
          · rw [h]; simp
        · rename_i hne
          rcases hd' with ⟨_, h⟩ | h
          · exact ⟨(h1 d h).1, (h1 d h).2.trans (List.sublist_append_left _ _)⟩
          · exact absurd (by rw [h]) hne
      · unfold addG appG ensG
        rw [List.length_map, List.length_append, List.length_singleton]
        split
        · omega
        · rw [List.length_append, List.length_singleton]; omega
  exact ⟨fun g hg => ((key ys).1 g hg).1, fun g hg => ((key ys).1 g hg).2, (key ys).2⟩
/-- the classes -/
def classesOf (ys : List Yrd) : List (List Yrd) := srt ((groups ys).map (·.2))
end W81
end
section
set_option Elab.async false
set_option linter.all false
set_option maxRecDepth 100000
set_option maxHeartbeats 4000000
namespace W81
open PySem PySem.Spec PyProof.Rows L2 DL
local macro_rules | `(tactic| walk_at "rd") => `(tactic| simp only [dSeq, dIfS, dOrT, dAndT, dNotT, dTest, dRet, dRetN, dAndV, dOrV, dNotV, dB, dCons, dNil, dC, dVar_iff, dBin, dChain, dAsg, dgName, dgTup, dgCons, dgNil, dCall, dTup, dLst, dNeg, dIf, dDrop, dNext, dYes, turnD, wipeD, dLc, diSeq, dSl, doSome, doNone, dM, dM0, dFor, dOr, dgSub, dIsN, dNotN, dEnum, dRange1, dRange2, dZip, dListZip, dAug, dPar, dRev, dRevL, dZipY, dKeysN, dValsN, dItemsN, dLockE, dLockS, dSetdef, dDNewN, dDNew, dDispN, dDisp, dCallX, dDropX, dRetX, dAsgX, dRaise, dCallL, dCallR, dCallXR, dLc2, turn2, startD, List.map_cons, List.map_nil, List.cons_append, List.nil_append, List.length_cons, List.length_nil, Nat.reduceAdd, Nat.reduceSub, Nat.zero_add, List.reduceReplicate, List.replicate_succ, List.replicate_zero, List.getElem?_cons_zero, List.getElem?_cons_succ, List.set_cons_zero, List.set_cons_succ, if_true])
theorem look_nodup {α : Type} [DecidableEq α] [Enc α] {a : α} {v : D} : ∀ {m : List (α × D)}, (m.map (·.1)).Nodup → (a, v) ∈ m → look m a = some v
  | [], _, h => by cases h
  | p :: m, hn, h => by
    rw [List.map_cons, List.nodup_cons] at hn
    unfold look
    rcases List.mem_cons.mp h with rfl | h
    · rw [List.find?_cons_of_pos (by simp)]; rfl
    · have ne : p.1 ≠ a := fun z => hn.1 (by rw [z]; exact List.mem_map_of_mem (f := Prod.fst) h)
      rw [List.find?_cons_of_neg (by simpa using ne)]
      exact look_nodup hn.2 h
theorem lots_tail {G4 : Gp} {k : Addr} {gs : List Lot} {f : Yrd} (h : Lots G4 k gs) (hf : f ∈ gs.map (·.1.1)) : ∃ g ∈ gs, g.1.1 = f ∧ look (dictL gs) f = some (.ref g.1.2) := by
  obtain ⟨g, hg, rfl⟩ := List.mem_map.mp hf
  exact ⟨g, hg, rfl, look_nodup (by rw [dictL_keys]; exact h.keys) (List.mem_map_of_mem (f := fun g : Lot => (g.1.1, D.ref g.1.2)) hg)⟩
theorem appG_len (f one : Yrd) (l : Gr) : (appG f one l).length = l.length := List.length_map _
/-- what stands behind the turns -/
structure Turned (G : Gp) (k p : Addr) (ys pre : List Yrd) (G2 : Gp) (gs : List Lot) : Prop where
  ext : Ext G G2
  lots : Lots G2 k gs
  bare : bare gs = groups pre
  far : ∀ g ∈ gs, g.1.2 ≠ p ∧ G g.1.2 = none
  list : G2 p = some (.lst (ys.map enc))
theorem Turned.more {G G2 G3 : Gp} {k p : Addr} {ys pre : List Yrd} {gs : List Lot} (h : Turned G k p ys pre G2 gs) (x : Ext G2 G3) : Turned G k p ys pre G3 gs := ⟨h.ext.trans x, h.lots.ext x, h.bare, h.far, x _ _ h.list⟩
/-- between: the form is there -/
structure Turning (G : Gp) (k p : Addr) (ys pre : List Yrd) (f : Yrd) (G2 : Gp) (gs : List Lot) : Prop where
  ext : Ext G G2
  lots : Lots G2 k gs
  bare : bare gs = ensG f (groups pre)
  far : ∀ g ∈ gs, g.1.2 ≠ p ∧ G g.1.2 = none
  list : G2 p = some (.lst (ys.map enc))
  there : f ∈ gs.map (·.1.1)
theorem Turned.same {G G2 : Gp} {k p : Addr} {ys pre : List Yrd} {gs : List Lot} {f : Yrd} (h : Turned G k p ys pre G2 gs) (hf : f ∈ gs.map (·.1.1)) : Turning G k p ys pre f G2 gs :=
  ⟨h.ext, h.lots, by unfold ensG; rw [← h.bare, bare_keys, if_pos hf], h.far, h.list, hf⟩
theorem Turned.new {G G2 : Gp} {k p q : Addr} {ys pre : List Yrd} {gs : List Lot} {f : Yrd} (h : Turned G k p ys pre G2 gs) (hk : G k = none) (hkp : k ≠ p) (hf : f ∉ gs.map (·.1.1)) (hq : G2 q = none) :
    Turning G k p ys pre f (up (up G2 q (.lst [])) k (.dn (encM (putA (dictL gs) f (.ref q))))) (gs ++ [((f, q), [])]) := by
  have gq := h.ext.fresh hq
  refine ⟨(h.ext.put gq).put hk, h.lots.new hf hq, ?_, fun g hg => ?_, ?_, by simp⟩
  · unfold ensG
    rw [← h.bare, bare_keys, if_neg hf]
    unfold W81.bare
    rw [List.map_append]
    rfl
  · rcases List.mem_append.mp hg with hg | hg
    · exact h.far g hg
    · rw [List.mem_singleton.mp hg]
      exact ⟨(fun z => by rw [show q = p from z, h.list] at hq; cases hq), gq⟩
  · rw [up_ne (Ne.symm hkp)]
    exact up_get h.list hq
theorem Turning.done {G G2 : Gp} {k p : Addr} {ys pre : List Yrd} {gs : List Lot} {g : Lot} {one : Yrd} (h : Turning G k p ys pre (setOut one) G2 gs) (hg : g ∈ gs) (e : g.1.1 = setOut one) : Turned G k p ys (pre ++ [one]) (up G2 g.1.2 (.lst (g.2.map enc ++ [enc one]))) (appL (setOut one) one gs) := by
  obtain ⟨f1, f2⟩ := h.far g hg
  refine ⟨h.ext.put f2, e ▸ h.lots.app hg, by rw [bare_app, h.bare, groups_snoc]; rfl, fun c hc => ?_, by rw [up_ne (Ne.symm f1)]; exact h.list⟩
  obtain ⟨d, hd, rfl⟩ := List.mem_map.mp hc
  split
  · exact h.far d hd
  · exact h.far d hd
theorem Turned.mem {G G2 : Gp} {k p : Addr} {ys pre : List Yrd} {gs : List Lot} (h : Turned G k p ys pre G2 gs) {g : Lot} (hg : g ∈ gs) : g.2 ≠ [] ∧ g.2.Sublist pre := by
  have : (g.1.1, g.2) ∈ groups pre := by rw [← h.bare]; exact List.mem_map_of_mem (f := fun g : Lot => (g.1.1, g.2)) hg
  exact ⟨(groups_ok pre).ne _ this, (groups_ok pre).sub _ this⟩
theorem Turned.len {G G2 : Gp} {k p : Addr} {ys pre : List Yrd} {gs : List Lot} (h : Turned G k p ys pre G2 gs) : gs.length ≤ pre.length := by
  have := (groups_ok pre).len
  rw [← h.bare] at this
  unfold W81.bare at this
  rwa [List.length_map] at this
theorem Turning.len {G G2 : Gp} {k p : Addr} {ys pre : List Yrd} {f : Yrd} {gs : List Lot} (h : Turning G k p ys pre f G2 gs) {g : Lot} (hg : g ∈ gs) : g.2.length ≤ pre.length := by
  have : (g.1.1, g.2) ∈ ensG f (groups pre) := by rw [← h.bare]; exact List.mem_map_of_mem (f := fun g : Lot => (g.1.1, g.2)) hg
  unfold ensG at this
  split at this
  · exact ((groups_ok pre).sub _ this).length_le
  · rcases List.mem_append.mp this with h | h
    · exact ((groups_ok pre).sub _ h).length_le
    · have := List.mem_singleton.mp h
      have : g.2 = [] := congrArg (·.2) this
      rw [this]; exact Nat.zero_le _
theorem isYd_ok {ks : Col} {most : Nat} {y : Yrd} (h : IsYd ks most y) (hk : ks.length ≤ 6) : OkY y := ⟨h.ne, by rw [h.kinds.length_eq]; omega⟩
theorem srt1_yards {l : List Yrd} (h : ∀ y ∈ l, y ≠ []) : Srt1 l := srt1_lists h
theorem dnl_keys (gs : List Lot) : (encM (dictL gs)).map (·.2.1) = gs.map fun g => enc g.1.1 := by
  rw [encM_keys, dictL_keys, List.map_map]; rfl
theorem dnl_vals (gs : List Lot) : (encM (dictL gs)).map (·.2.2) = gs.map fun g => D.ref g.1.2 := by
  unfold DL.encM dictL
  rw [List.map_map, List.map_map]; rfl
theorem Lots.locked {G : Gp} {k : Addr} {gs : List Lot} (h : Lots G k gs) {u} {g : Lot} (hg : g ∈ gs) : up G k (.dnl u (encM (dictL gs))) g.1.2 = some (.lst (g.2.map enc)) := by
  rw [up_ne (h.ne g hg)]; exact h.val g hg
structure IsClasses (ks : Col) (most : Nat) (cls : List (List Yrd)) : Prop where
  ex : ∃ ys, AllYd ks most ys ∧ ys.length ≤ 50000 ∧ cls = classesOf ys
def spOwn : SpD := fun ds G Q => ∃ (a : Addr) (ks : Col) (most : Nat), ds = [.ref a, natD most] ∧ lstAt G a = some (ks.map D.str) ∧ ks.length ≤ 6 ∧ ks ≠ [] ∧ ∀ G' cls, Ext G G' → IsClasses ks most cls → Q (enc cls) G'
theorem k__law_own_classes (ds : List D) (G : Gp) (Q : DK) (h : spOwn ds G Q) : r__law_own_classes spYardsOf spOut { nx := fun _ G' => Q .non G', rt := Q } (startD ["boxes", "most", "lots", "yard", "lot"] ds) G := by
  obtain ⟨a, ks, most, rfl, ha, hn, hne, q⟩ := h
  unfold r__law_own_classes
  walk_at "rd"
  refine .inl fun k hk => ⟨a, ks, most, rfl, (Ext.up hk).lst ha, hn, hne, fun G1 p ys e1 hp h1 hA hyl => ⟨_, _, .lst (lstAt_lst h1), ?_⟩⟩
  have e01 : Ext G G1 := Ext.under hk e1
  have k1 := e1 k _ up_same
  have kp : k ≠ p := fun z => by rw [← z, up_same] at hp; cases hp
  refine forD_map (fun pre env G2 => (∃ o3 o4, env = [some (.ref a), some (natD most), some (.ref k), o3, o4]) ∧ ∃ gs, Turned G k p ys pre G2 gs) ⟨⟨_, _, rfl⟩, [], e01, ⟨k1, List.nodup_nil, List.nodup_nil, (fun g hg => by cases hg), fun g hg => by cases hg⟩, rfl, (fun g hg => by cases hg), h1⟩
    (fun env G2 ⟨⟨o3, o4, he⟩, gs, T⟩ => ⟨lstAt_lst T.list, ?_⟩) fun pre x post env G2 K hl ⟨⟨o3, o4, he⟩, gs, T⟩ hK => ⟨lstAt_lst T.list, ?_⟩
  · subst he
    walk_at "rd"
    refine ⟨k, _, T.lots.dict, fun u => ⟨k, u, _, rfl, up_same, ?_⟩⟩
    rw [dnl_vals]
    have e3 : ExtE k G2 (up G2 k (.dnl u (encM (dictL gs)))) := (ExtE.refl _ _).put
    refine mapD_map (fun g : Lot => some (srt g.2)) (enc (α := List Yrd)) (fun G' e => e k _ up_same) (fun g hg G4 R e4 hR => ?_) fun G4 e4 p4 hp4 => ?_
    · walk_at "rd"
      obtain ⟨m1, m2⟩ := T.mem hg
      refine sorted_l (lstAt_lst (e4 _ _ (T.lots.locked hg))) (srt1_yards fun y hy => isYd_ne ((hA.mem y).mp (m2.subset hy)) hne) fun p5 hp5 => tup_l lst_up (hR _ (Ext.up hp5))
    · have k4 := e4 k _ up_same
      have e5 := e4.put (o := .lst ((gs.filterMap fun g : Lot => some (srt g.2)).map enc)) (e4.fresh hp4)
      have kp4 : p4 ≠ k := fun z => by rw [z, k4] at hp4; cases hp4
      refine ⟨e5 k _ up_same, ?_⟩
      have hls : lstAt (up (up G4 p4 (.lst ((gs.filterMap fun g : Lot => some (srt g.2)).map enc))) k (.dn (encM (dictL gs)))) p4 = some ((gs.filterMap fun g : Lot => some (srt g.2)).map enc) := lstAt_lst (by rw [up_ne kp4, up_same])
      refine sorted_l hls (srt1_lists fun c hc => ?_) fun p6 hp6 => tup_l lst_up ?_
      · obtain ⟨g, hg, e⟩ := List.mem_filterMap.mp hc
        cases e
        intro z
        have := congrArg List.length z
        rw [srt_len] at this
        exact (T.mem hg).1 (List.length_eq_zero_iff.mp this)
      · have ex : Ext G (up (up G4 p4 (.lst ((gs.filterMap fun g : Lot => some (srt g.2)).map enc))) k (.dn (encM (dictL gs)))) := ((T.ext.put hk).trans e5).put hk
        have en : srt (gs.filterMap fun g : Lot => some (srt g.2)) = classesOf ys := by
          unfold classesOf
          rw [← T.bare]
          unfold W81.bare
          rw [filterMap_some, List.map_map]
          congr 1
          apply List.map_congr_left
          intro g hg
          exact srt_self (hA.pw.sublist (T.mem hg).2)
        rw [en]
        exact q _ _ (ex.put (ex.fresh hp6)) ⟨ys, hA, hyl, rfl⟩
  · subst he
    have hx : x ∈ ys := by rw [hl]; simp
    have hxy := (hA.mem x).mp hx
    have hpl : pre.length ≤ 3000000 := by
      have := congrArg List.length hl
      rw [List.length_append, List.length_cons] at this; omega
    walk_at "rd"
    refine ⟨⟨k, _, rfl, T.lots.dict⟩, x, rfl, isYd_ok hxy hn, fun G3 e3 => ⟨Nat.zero_le _, fun w hw => ?_⟩⟩
    have T3 := T.more e3
    have T4 := T3.more (Ext.up (o := .lst []) hw)
    obtain ⟨lf, hlf⟩ := tup_of_list (setOut x)
    refine ⟨k, _, lf, .ref w, key (setOut x), rfl, by rw [← hlf], T4.lots.dict, by rw [← hlf]; exact Enc.nk_key _, key8 _ (by decide), sz_lt (by unfold DL.encM dictL; rw [List.length_map, List.length_map]; have := T.len; omega), fun d hd => ?_, fun hd => ?_⟩
    · rw [look_enc] at hd
      have hf : setOut x ∈ gs.map (·.1.1) := by rw [← dictL_keys]; exact look_some.mp (by rw [hd]; rfl)
      have U := T4.same hf
      obtain ⟨g, hg, e, hlk⟩ := lots_tail U.lots hf
      rw [hlk] at hd
      cases hd
      have gv := U.lots.val g hg
      refine ⟨some_lst (lstAt_lst gv), app_m gv (by rw [List.length_map]; have := U.len hg; omega) ?_⟩
      exact hK _ _ ⟨⟨_, _, rfl⟩, _, U.done hg e⟩
    · rw [look_enc] at hd
      have hf : setOut x ∉ gs.map (·.1.1) := fun z => by rw [← dictL_keys] at z; have := look_some.mpr z; rw [hd] at this; cases this
      have U := T3.new hk kp hf hw
      rw [show (D.tup lf) = enc (setOut x) from hlf.symm, put_enc]
      have hg : (((setOut x, w), []) : Lot) ∈ gs ++ [((setOut x, w), [])] := by simp
      have gv := U.lots.val _ hg
      refine ⟨some_lst (lstAt_lst gv), app_m gv (by show 0 < _; decide) ?_⟩
      exact hK _ _ ⟨⟨_, _, rfl⟩, _, U.done hg rfl⟩
end W81
end
section
set_option Elab.async false
set_option linter.all false
set_option maxRecDepth 100000
set_option maxHeartbeats 4000000
namespace W81
open PySem PySem.Spec PyProof.Rows L2 DL
local macro_rules | `(tactic| walk_at "rd") => `(tactic| simp only [dSeq, dIfS, dOrT, dAndT, dNotT, dTest, dRet, dRetN, dAndV, dOrV, dNotV, dB, dCons, dNil, dC, dVar_iff, dBin, dChain, dAsg, dgName, dgTup, dgCons, dgNil, dCall, dTup, dLst, dNeg, dIf, dDrop, dNext, dYes, turnD, wipeD, dLc, diSeq, dSl, doSome, doNone, dM, dM0, dFor, dOr, dgSub, dIsN, dNotN, dEnum, dRange1, dRange2, dZip, dListZip, dAug, dPar, dRev, dRevL, dZipY, dKeysN, dValsN, dItemsN, dLockE, dLockS, dSetdef, dDNewN, dDNew, dDispN, dDisp, dCallX, dDropX, dRetX, dAsgX, dRaise, dCallL, dCallR, dCallXR, dLc2, turn2, startD, List.map_cons, List.map_nil, List.cons_append, List.nil_append, List.length_cons, List.length_nil, Nat.reduceAdd, Nat.reduceSub, Nat.zero_add, List.reduceReplicate, List.replicate_succ, List.replicate_zero, List.getElem?_cons_zero, List.getElem?_cons_succ, List.set_cons_zero, List.set_cons_succ, if_true])
def spLike (C1 C2 : Addr) : SpX := fun ds G Q QX => ∃ x o, ds = [x, o] ∧ Lk2 G x ∧ Lk1 G o ∧
  ((isYrdD x = false ∧ ∀ G', Ext G G' → QX C1 x G') ∨ (isYrdD x = true ∧ isBetD 1 6 o = false ∧ ∀ G', Ext G G' → QX C2 o G') ∨
   (isYrdD x = true ∧ isBetD 1 6 o = true ∧ ∃ (y : Yrd) (most : Nat), x = enc y ∧ o = natD most ∧ OkY y ∧ y.flatten.length ≤ 6 ∧ y.flatten ≠ [] ∧ ∀ G' cls, Ext G G' → IsClasses y.flatten most cls → Q (enc cls) G'))
theorem lk1_bet {G G' : Gp} {o : D} (x : Ext G G') (h : Lk1 G o) : Lk1 G' o := h.ext x
theorem k_like_classes (C1 C2 : Addr) (ds : List D) (G : Gp) (Q : DK) (QX : XQ) (h : spLike C1 C2 ds G Q QX) : r_like_classes spKinds spYardsOf spOut spBet (spNeed C1) C2 { nx := fun _ G' => Q .non G', rt := Q, ex := QX } (startD ["yard", "most", "known", "one", "form"] ds) G := by
  obtain ⟨x, o, rfl, hx, ho, q⟩ := h
  unfold r_like_classes
  walk_at "rd"
  refine ⟨x, rfl, hx, fun G0 e0 => ?_⟩
  rcases q with ⟨h1, q⟩ | ⟨h1, h2, q⟩ | ⟨h1, h2, y, most, rfl, rfl, hy, hn, hne, q⟩
  · rw [if_neg (by rw [h1]; decide)]
    exact q G0 e0
  · rw [if_pos h1]
    refine ⟨o, 1, 6, rfl, ho.ext e0, _, rfl, ?_⟩
    rw [h2, if_pos (by rfl)]
    exact q G0 e0
  · rw [if_pos h1]
    refine ⟨natD most, 1, 6, rfl, trivial, _, rfl, ?_⟩
    rw [h2, if_neg (by decide)]
    refine .inl fun k hk0 => ⟨y, rfl, by omega, fun G1 pk e1 hpk hk => ?_⟩
    have hk : G1 pk = some (.lst ((srt y.flatten).map D.str)) := hk
    have hkinds : (srt y.flatten).length ≤ 6 := by rw [srt_len]; exact hn
    have hknz : srt y.flatten ≠ [] := fun z => hne (by have := congrArg List.length z; rw [srt_len] at this; exact List.length_eq_zero_iff.mp this)
    refine ⟨pk, srt y.flatten, most, rfl, lstAt_lst hk, hkinds, hknz, fun G2 p ys e2 hp h3 hA hyl => ⟨_, _, .lst (lstAt_lst h3), ?_⟩⟩
    have gk : G k = none := e0.fresh hk0
    have e02 : Ext G G2 := e0.trans (Ext.under hk0 (e1.trans e2))
    have k2 := e2 k _ (e1 k _ up_same)
    have kp : k ≠ p := fun z => by rw [← z, e1 k _ up_same] at hp; cases hp
    refine forD_map (fun pre env G3 => (∃ o3 o4, env = [some (enc y), some (natD most), some (.ref k), o3, o4]) ∧ ∃ gs, Turned G k p ys pre G3 gs) ⟨⟨_, _, rfl⟩, [], e02, ⟨k2, List.nodup_nil, List.nodup_nil, (fun g hg => by cases hg), fun g hg => by cases hg⟩, rfl, (fun g hg => by cases hg), h3⟩
      (fun env G3 ⟨⟨o3, o4, he⟩, gs, T⟩ => ⟨lstAt_lst T.list, ?_⟩) fun pre x post env G3 K hl ⟨⟨o3, o4, he⟩, gs, T⟩ hK => ⟨lstAt_lst T.list, ?_⟩
    · subst he
      walk_at "rd"
      refine ⟨k, _, T.lots.dict, fun u => ⟨k, u, _, rfl, up_same, ?_⟩⟩
      rw [dnl_keys]
      refine mapD_map (fun g : Lot => some g.2) (enc (α := List Yrd)) (fun G' e => e k _ up_same) (fun g hg G4 R e4 hR => ?_) fun G4 e4 p4 hp4 => ?_
      · walk_at "rd"
        have k4 := e4 k _ up_same
        obtain ⟨g', hg', e, hlk⟩ := lots_tail T.lots (f := g.1.1) (List.mem_map_of_mem (f := fun g : Lot => g.1.1) hg)
        have : g' = g := nodup_inj T.lots.keys g' hg' g hg e
        subst this
        refine ix_n g'.1.1 (dnOf_dnl k4) rfl (tup_of_list _) hlk ?_
        exact tup_l (lstAt_lst (e4 _ _ (T.lots.locked hg))) (hR G4 (Ext.refl G4))
      · rw [filterMap_some]
        have k4 := e4 k _ up_same
        have e5 := e4.put (o := .lst ((gs.map fun g : Lot => g.2).map enc)) (e4.fresh hp4)
        have kp4 : p4 ≠ k := fun z => by rw [z, k4] at hp4; cases hp4
        refine ⟨e5 k _ up_same, ?_⟩
        have hls : lstAt (up (up G4 p4 (.lst ((gs.map fun g : Lot => g.2).map enc))) k (.dn (DL.encM (dictL gs)))) p4 = some ((gs.map fun g : Lot => g.2).map enc) := lstAt_lst (by rw [up_ne kp4, up_same])
        refine sorted_l hls (srt1_lists fun c hc => ?_) fun p6 hp6 => tup_l lst_up ?_
        · obtain ⟨g, hg, rfl⟩ := List.mem_map.mp hc
          exact (T.mem hg).1
        · have ex : Ext G (up (up G4 p4 (.lst ((gs.map fun g : Lot => g.2).map enc))) k (.dn (DL.encM (dictL gs)))) := ((T.ext.put gk).trans e5).put gk
          have en : srt (gs.map fun g : Lot => g.2) = classesOf ys := by
            unfold classesOf
            rw [← T.bare]
            unfold W81.bare
            rw [List.map_map]
            rfl
          rw [en]
          exact q _ _ (ex.put (ex.fresh hp6)) ⟨ys, hA.perm (srt_perm _), hyl, rfl⟩
    · subst he
      have hx : x ∈ ys := by rw [hl]; simp
      have hxy := (hA.mem x).mp hx
      have hpl : pre.length ≤ 3000000 := by
        have := congrArg List.length hl
        rw [List.length_append, List.length_cons] at this; omega
      walk_at "rd"
      refine ⟨x, rfl, isYd_ok hxy hkinds, fun G4 e4 => ?_⟩
      have T4 := T.more e4
      refine nin_n (setOut x) (dnOf_dn T4.lots.dict) rfl (tup_of_list _) ⟨_, rfl, ?_⟩
      by_cases hf : setOut x ∈ gs.map (·.1.1)
      · rw [if_neg (by rw [look_some.mpr (by rw [dictL_keys]; exact hf)]; decide)]
        have U := T4.same hf
        obtain ⟨g, hg, e, hlk⟩ := lots_tail U.lots hf
        have gv := U.lots.val g hg
        refine ix_n (setOut x) (dnOf_dn U.lots.dict) rfl (tup_of_list _) hlk ⟨some_lst (lstAt_lst gv), app_m gv (by rw [List.length_map]; have := U.len hg; omega) ?_⟩
        exact hK _ _ ⟨⟨_, _, rfl⟩, _, U.done hg e⟩
      · have hnl : (look (dictL gs) (setOut x)).isSome = false := by
          cases hz : (look (dictL gs) (setOut x)).isSome with
          | false => rfl
          | true => exact absurd (by rw [← dictL_keys]; exact look_some.mp hz) hf
        rw [hnl, if_pos (by decide)]
        refine ⟨Nat.zero_le _, fun w hw => ?_⟩
        have T5 := T4.more (Ext.up (o := .lst []) hw)
        refine set_n (setOut x) T5.lots.dict rfl (tup_of_list _) (by unfold dictL; rw [List.length_map]; have := T.len; omega) ?_
        have U := T4.new gk kp hf hw
        have hg : (((setOut x, w), []) : Lot) ∈ gs ++ [((setOut x, w), [])] := by simp
        have gv := U.lots.val _ hg
        have hlk : look (dictL (gs ++ [((setOut x, w), [])])) (setOut x) = some (.ref w) := look_nodup (m := dictL (gs ++ [((setOut x, w), [])])) (by rw [dictL_keys]; exact U.lots.keys) (List.mem_map_of_mem (f := fun g : Lot => (g.1.1, D.ref g.1.2)) hg)
        refine ix_n (setOut x) (dnOf_dn U.lots.dict) rfl (tup_of_list _) hlk ⟨some_lst (lstAt_lst gv), app_m gv (by show 0 < _; decide) ?_⟩
        exact hK _ _ ⟨⟨_, _, rfl⟩, _, U.done hg rfl⟩
end W81
end
section
set_option Elab.async false
set_option linter.all false
set_option maxRecDepth 100000
set_option maxHeartbeats 4000000
namespace W81
open PySem PySem.Spec PyProof.Rows L2 DL
local macro_rules | `(tactic| walk_at "rd") => `(tactic| simp only [dSeq, dIfS, dOrT, dAndT, dNotT, dTest, dRet, dRetN, dAndV, dOrV, dNotV, dB, dCons, dNil, dC, dVar_iff, dBin, dChain, dAsg, dgName, dgTup, dgCons, dgNil, dCall, dTup, dLst, dNeg, dIf, dDrop, dNext, dYes, turnD, wipeD, dLc, diSeq, dSl, doSome, doNone, dM, dM0, dFor, dOr, dgSub, dIsN, dNotN, dEnum, dRange1, dRange2, dZip, dListZip, dAug, dPar, dRev, dRevL, dZipY, dKeysN, dValsN, dItemsN, dLockE, dLockS, dSetdef, dDNewN, dDNew, dDispN, dDisp, dCallX, dDropX, dRetX, dAsgX, dRaise, dCallL, dCallR, dCallXR, dLc2, turn2, startD, List.map_cons, List.map_nil, List.cons_append, List.nil_append, List.length_cons, List.length_nil, Nat.reduceAdd, Nat.reduceSub, Nat.zero_add, List.reduceReplicate, List.replicate_succ, List.replicate_zero, List.getElem?_cons_zero, List.getElem?_cons_succ, List.set_cons_zero, List.set_cons_succ, if_true])
/-! ### the maths of 13.3 over columns, bottom first -/
theorem sgl_iff {c : Col} {k : Str} (hk : k ∈ c) : Yard.sgl c = true ↔ ∀ x ∈ c, x = k := by
  cases c with
  | nil => cases hk
  | cons a r =>
    rw [Yard.sgl_cons]
    constructor
    · intro h
      have ha : k = a := by rcases List.mem_cons.mp hk with h1 | h1; exact h1; exact h k h1
      intro x hx
      rcases List.mem_cons.mp hx with h1 | h1
      · rw [h1, ha]
      · rw [h x h1, ha]
    · intro h x hx
      rw [h x (List.mem_cons_of_mem _ hx), h a List.mem_cons_self]
theorem sgl_rev (c : Col) : Yard.sgl c.reverse = Yard.sgl c := by
  cases c with
  | nil => rfl
  | cons a r =>
    have h1 := sgl_iff (c := a :: r) (k := a) List.mem_cons_self
    have h2 := sgl_iff (c := (a :: r).reverse) (k := a) (by simp)
    have : Yard.sgl (a :: r).reverse = true ↔ Yard.sgl (a :: r) = true := by
      rw [h1, h2]
      simp only [List.mem_reverse]
    exact Bool.eq_iff_iff.mpr this
def rv (y : Yrd) : Yrd := y.map List.reverse
theorem so_rev (c : Col) : (Yard.so c.reverse).Perm (rv (Yard.so c)) := by
  unfold Yard.so rv
  rw [sgl_rev]
  split
  · rw [List.map_map]
    have : (c.map (List.reverse ∘ fun k => [k])) = c.map fun k => [k] := List.map_congr_left fun _ _ => rfl
    rw [this]
    exact (List.reverse_perm c).map _
  · exact List.Perm.refl _
theorem cutK_perm {k : Str} (c : Col) : (cutK k c).Perm (c.erase k) := by
  unfold cutK
  exact (List.reverse_perm _).trans ((List.reverse_perm c).erase k)
theorem so_nil : Yard.so ([] : Col) = [] := rfl
theorem flat_filter (l : Yrd) : (l.filter fun c => decide (c ≠ [])).flatMap Yard.so = l.flatMap Yard.so := by
  induction l with
  | nil => rfl
  | cons c l ih =>
    rw [List.filter_cons]
    by_cases h : c = []
    · subst h
      rw [if_neg (by simp), List.flatMap_cons, so_nil, ih]
      rfl
    · rw [if_pos (by simpa using h), List.flatMap_cons, List.flatMap_cons, ih]
theorem filter_flat (l : Yrd) : (l.filter fun c => decide (c ≠ [])).flatten = l.flatten := by
  induction l with
  | nil => rfl
  | cons c l ih =>
    rw [List.filter_cons]
    by_cases h : c = []
    · subst h
      rw [if_neg (by simp), List.flatten_cons, ih]
      rfl
    · rw [if_pos (by simpa using h), List.flatten_cons, List.flatten_cons, ih]
theorem flatMap_perm {β γ : Type} {f : β → List γ} {l m : List β} (h : l.Perm m) : (l.flatMap f).Perm (m.flatMap f) := h.flatMap_right f
theorem behind_so (y : Yrd) (k : Str) (c : Col) : (setOut (behindC y k c)).Perm ((y.erase c).flatMap Yard.so ++ Yard.so (cutK k c)) := by
  unfold setOut
  refine (srt_perm _).trans ?_
  unfold behindC laidC
  refine (flatMap_perm (srt_perm _)).trans ?_
  rw [flat_filter, List.flatMap_append, List.flatMap_singleton]
theorem behind_kinds {y : Yrd} {k : Str} {c : Col} (hc : c ∈ y) (hk : k ∈ c) : (behindC y k c).flatten.Perm (y.flatten.erase k) := by
  unfold behindC laidC
  refine ((srt_perm _).flatten).trans ?_
  rw [filter_flat, List.flatten_append, List.flatten_singleton]
  have h1 : y.flatten.Perm (c ++ (y.erase c).flatten) := by
    have := (List.perm_cons_erase hc).flatten
    rwa [List.flatten_cons] at this
  have h2 := (h1.erase k)
  rw [List.erase_append_left _ hk] at h2
  exact (List.perm_append_comm.trans ((cutK_perm c).append_right _)).trans h2.symm
theorem behind_ne (y : Yrd) (k : Str) (c : Col) : ∀ d ∈ behindC y k c, d ≠ [] := fun d hd => by
  unfold behindC laidC at hd
  simpa using (List.mem_filter.mp (mem_srt.mp hd)).2
/-- the column that is pulled from, set out, top first -/
def one0 (k : Str) (c : Col) : Col := if Yard.sgl c = true then [k] else c.reverse
theorem one0_k {k : Str} {c : Col} (h : k ∈ c) : k ∈ one0 k c := by
  unfold one0
  split
  · simp
  · simpa using h
theorem one0_idx {k : Str} {c : Col} (h : k ∈ c) : (one0 k c).idxOf k = c.reverse.idxOf k := by
  unfold one0
  split
  · rename_i hs
    have all := (sgl_iff h).mp hs
    rw [List.idxOf_cons_self]
    cases hr : c.reverse with
    | nil => rw [List.reverse_eq_nil_iff] at hr; subst hr; cases h
    | cons a r =>
      have : a = k := all a (by rw [← List.mem_reverse, hr]; simp)
      rw [this, List.idxOf_cons_self]
  · rfl
theorem setOut_perm (y : Yrd) : (setOut y).Perm (y.flatMap Yard.so) := srt_perm _
theorem one0_mem {y : Yrd} {k : Str} {c : Col} (hc : c ∈ y) (h : k ∈ c) : one0 k c ∈ rv (setOut y) := by
  have : ∀ x ∈ Yard.so c, x.reverse ∈ rv (setOut y) := fun x hx => List.mem_map_of_mem ((setOut_perm y).mem_iff.mpr (List.mem_flatMap.mpr ⟨c, hc, hx⟩))
  unfold one0
  split
  · rename_i hs
    exact this [k] (by unfold Yard.so; rw [if_pos hs]; exact List.mem_map_of_mem (f := fun k => [k]) h)
  · rename_i hs
    exact this c (by unfold Yard.so; rw [if_neg hs]; simp)
theorem map_erase_one {k : Str} : ∀ (c : Col), (c.map fun k => [k]).erase [k] = (c.erase k).map fun k => [k]
  | [] => rfl
  | x :: c => by
    rw [List.map_cons]
    by_cases e : x = k
    · subst e; rw [List.erase_cons_head, List.erase_cons_head]
    · rw [List.erase_cons_tail (by simpa using e), List.erase_cons_tail (by simpa using e), map_erase_one c, List.map_cons]
theorem one0_rest {y : Yrd} {k : Str} {c : Col} (hc : c ∈ y) (h : k ∈ c) : ((rv (setOut y)).erase (one0 k c) ++ Yard.so ((one0 k c).erase k)).Perm (rv (setOut (behindC y k c))) := by
  have h0 : (rv (setOut y)).Perm (rv (Yard.so c) ++ rv ((y.erase c).flatMap Yard.so)) := by
    unfold rv
    rw [← List.map_append]
    refine List.Perm.map _ ((setOut_perm y).trans ?_)
    have := flatMap_perm (f := Yard.so) (List.perm_cons_erase hc)
    rwa [List.flatMap_cons] at this
  have h1 : (rv (setOut (behindC y k c))).Perm (rv ((y.erase c).flatMap Yard.so) ++ rv (Yard.so (cutK k c))) := by
    unfold rv
    rw [← List.map_append]
    exact List.Perm.map _ (behind_so y k c)
  refine List.Perm.trans ?_ h1.symm
  have h2 := h0.erase (one0 k c)
  refine (h2.append_right _).trans ?_
  unfold one0
  by_cases hs : Yard.sgl c = true
  · rw [if_pos hs]
    have e1 : rv (Yard.so c) = c.map fun k => [k] := by
      unfold Yard.so rv
      rw [if_pos hs, List.map_map]
      rfl
    have all := (sgl_iff h).mp hs
    have hcut : Yard.sgl (cutK k c) = true := by
      cases hx : cutK k c with
      | nil => rfl
      | cons a r =>
        refine (sgl_iff (k := k) ?_).mpr fun x hx2 => all x ?_
        · have : a = k := all a (List.mem_of_mem_erase ((cutK_perm c).mem_iff.mp (by rw [hx]; simp)))
          rw [this]; simp
        · exact List.mem_of_mem_erase ((cutK_perm c).mem_iff.mp (by rw [hx]; exact hx2))
    have e2 : (rv (Yard.so (cutK k c))).Perm ((c.erase k).map fun k => [k]) := by
      unfold Yard.so rv
      rw [if_pos hcut, List.map_map]
      exact (cutK_perm c).map _
    have e3 : ([k] : Col).erase k = [] := by simp
    rw [e1, e3, so_nil, List.append_nil, List.erase_append_left _ (List.mem_map_of_mem (f := fun k => [k]) h), map_erase_one]
    exact List.perm_append_comm.trans (e2.symm.append_left _)
  · rw [if_neg hs]
    have e1 : rv (Yard.so c) = [c.reverse] := by
      unfold Yard.so rv
      rw [if_neg hs]
      rfl
    rw [e1, List.singleton_append, List.erase_cons_head]
    refine List.Perm.append_left _ ?_
    have : c.reverse.erase k = (cutK k c).reverse := by unfold cutK; rw [List.reverse_reverse]
    rw [this]
    exact so_rev _
theorem canon_rv {y : Yrd} (hy : ∀ c ∈ y, c ≠ []) : Yard.Canon (rv (setOut y)) := fun c hc => by
  obtain ⟨d, hd, rfl⟩ := List.mem_map.mp hc
  obtain ⟨e, he, hde⟩ := List.mem_flatMap.mp ((setOut_perm y).mem_iff.mp hd)
  refine ⟨fun z => so_ne (hy e he) hde (List.reverse_eq_nil_iff.mp z), fun hs => ?_⟩
  rw [sgl_rev] at hs
  rw [List.length_reverse]
  rcases Yard.so_mem hde with ⟨_, k, _, rfl⟩ | ⟨h1, rfl⟩
  · rfl
  · rw [h1] at hs; cases hs
theorem mem_rv {y : Yrd} {k : Str} : k ∈ (rv (setOut y)).flatten → k ∈ y.flatten := fun h => by
  obtain ⟨c, hc, hk⟩ := List.mem_flatten.mp h
  obtain ⟨d, hd, rfl⟩ := List.mem_map.mp hc
  obtain ⟨e, he, hde⟩ := List.mem_flatMap.mp ((setOut_perm y).mem_iff.mp hd)
  rw [List.mem_reverse] at hk
  refine List.mem_flatten.mpr ⟨e, he, ?_⟩
  rcases Yard.so_mem hde with ⟨_, j, hj, rfl⟩ | ⟨_, rfl⟩
  · rw [List.mem_singleton.mp hk]; exact hj
  · exact hk
theorem rv_inj {y z : Yrd} (h : (rv y).Perm (rv z)) : y.Perm z := by
  have := h.map List.reverse
  unfold rv at this
  rw [List.map_map, List.map_map] at this
  have e : (List.reverse ∘ List.reverse : Col → Col) = id := funext fun c => List.reverse_reverse c
  rwa [e, List.map_id, List.map_id] at this
/-- if each pull tells the same of both, both set out are one -/
theorem uniq81 {y z : Yrd} (hy : ∀ c ∈ y, c ≠ []) (hz : ∀ c ∈ z, c ≠ []) (h : ∀ k, k ∈ y.flatten ∨ k ∈ z.flatten → ∃ c d, c ∈ y ∧ d ∈ z ∧ k ∈ c ∧ k ∈ d ∧ depI k c = depI k d ∧ setOut (behindC y k c) = setOut (behindC z k d)) : setOut y = setOut z := by
  have p : (rv (setOut y)).Perm (rv (setOut z)) := Yard.uniq (canon_rv hy) (canon_rv hz) fun k hk => by
    obtain ⟨c, d, hc, hd, kc, kd, e1, e2⟩ := h k (hk.imp mem_rv mem_rv)
    refine ⟨one0 k c, one0 k d, one0_mem hc kc, one0_mem hd kd, one0_k kc, one0_k kd, ?_, ?_⟩
    · rw [one0_idx kc, one0_idx kd]
      unfold depI at e1
      rw [if_pos kc, if_pos kd] at e1
      omega
    · refine (one0_rest hc kc).trans ?_
      rw [e2]
      exact (one0_rest hd kd).symm
  exact pw_unique (srt_pw _) (srt_pw _) (rv_inj p)
end W81
end
section
set_option Elab.async false
set_option linter.all false
set_option maxRecDepth 100000
set_option maxHeartbeats 4000000
namespace W81
open PySem PySem.Spec PyProof.Rows L2 DL
local macro_rules | `(tactic| walk_at "rd") => `(tactic| simp only [dSeq, dIfS, dOrT, dAndT, dNotT, dTest, dRet, dRetN, dAndV, dOrV, dNotV, dB, dCons, dNil, dC, dVar_iff, dBin, dChain, dAsg, dgName, dgTup, dgCons, dgNil, dCall, dTup, dLst, dNeg, dIf, dDrop, dNext, dYes, turnD, wipeD, dLc, diSeq, dSl, doSome, doNone, dM, dM0, dFor, dOr, dgSub, dIsN, dNotN, dEnum, dRange1, dRange2, dZip, dListZip, dAug, dPar, dRev, dRevL, dZipY, dKeysN, dValsN, dItemsN, dLockE, dLockS, dSetdef, dDNewN, dDNew, dDispN, dDisp, dCallX, dDropX, dRetX, dAsgX, dRaise, dCallL, dCallR, dCallXR, dLc2, turn2, startD, List.map_cons, List.map_nil, List.cons_append, List.nil_append, List.length_cons, List.length_nil, Nat.reduceAdd, Nat.reduceSub, Nat.zero_add, List.reduceReplicate, List.replicate_succ, List.replicate_zero, List.getElem?_cons_zero, List.getElem?_cons_succ, List.set_cons_zero, List.set_cons_succ, if_true])
/-! ### pulls_from -/
def addd (f : Col) (k : Str) : Col := if f.getLast? = some k then f else f ++ [k]
def ddup (l : Col) : Col := l.foldl addd []
theorem ddup_snoc (l : Col) (k : Str) : ddup (l ++ [k]) = addd (ddup l) k := by unfold ddup; rw [List.foldl_append]; rfl
theorem ddup_mem : ∀ l : Col, (∀ k, k ∈ ddup l ↔ k ∈ l) ∧ (ddup l).length ≤ l.length := by
  refine snoc_ind ⟨fun k => Iff.rfl, Nat.le_refl _⟩ fun l x ih => ?_
  rw [ddup_snoc]
  unfold addd
  split
  · rename_i h
    have hx : x ∈ ddup l := List.mem_of_getLast? h
    refine ⟨fun k => ?_, by rw [List.length_append]; exact Nat.le_trans ih.2 (Nat.le_add_right _ _)⟩
    rw [ih.1 k, List.mem_append, List.mem_singleton]
    exact ⟨.inl, fun z => z.elim id fun e => e ▸ (ih.1 x).mp hx⟩
  · refine ⟨fun k => ?_, by rw [List.length_append, List.length_append]; exact Nat.add_le_add_right ih.2 _⟩
    rw [List.mem_append, List.mem_append, ih.1 k]
def spFrom : SpD := fun ds G Q => ∃ y : Yrd, ds = [enc y] ∧ y.flatten.length ≤ 100000 ∧ ∀ G' p, Ext G G' → G p = none → G' p = some (.lst ((ddup (srt y.flatten)).map enc)) → Q (.ref p) G'
theorem at_last {β : Type} {f : β → D} {l : List β} {x : β} (h : l.getLast? = some x) : atI (l.map f) (-1) = some (f x) := by
  obtain ⟨r, rfl⟩ : ∃ r, l = r ++ [x] := by
    rcases List.eq_nil_or_concat l with rfl | ⟨u, z, rfl⟩
    · cases h
    · rw [List.concat_eq_append] at h ⊢
      rw [List.getLast?_append] at h
      have : z = x := by simpa using h
      exact ⟨u, by rw [this]⟩
  rw [List.map_append, List.map_singleton]
  exact atI_last _ _
theorem k_pulls_from (ds : List D) (G : Gp) (Q : DK) (h : spFrom ds G Q) : r_pulls_from spKinds { nx := fun _ G' => Q .non G', rt := Q } (startD ["yard", "found", "kind"] ds) G := by
  obtain ⟨y, rfl, hy, q⟩ := h
  unfold r_pulls_from
  walk_at "rd"
  refine ⟨Nat.zero_le _, fun p hp => ⟨y, rfl, hy, fun G1 pk e1 hpk hk => ⟨_, _, .lst (lstAt_lst hk), ?_⟩⟩⟩
  have hk : G1 pk = some (.lst ((srt y.flatten).map D.str)) := hk
  have e01 : Ext G G1 := (Ext.up hp).trans e1
  have p1 := e1 p _ up_same
  have pkp : pk ≠ p := fun z => by rw [z, up_same] at hpk; cases hpk
  have sl := srt_len y.flatten
  refine forD_map (l := srt y.flatten) (fun pre env G2 => (∃ o2, env = [some (enc y), some (.ref p), o2]) ∧ Ext G G2 ∧ ExtE p G1 G2 ∧ G2 p = some (.lst ((ddup pre).map enc))) ⟨⟨_, rfl⟩, e01, ExtE.refl _ _, p1⟩ (fun env G2 ⟨⟨o2, he⟩, e2, x2, h2⟩ => ⟨x2.lst pkp (lstAt_lst hk), ?_⟩) fun pre x post env G2 K hl ⟨⟨o2, he⟩, e2, x2, h2⟩ hK => ⟨x2.lst pkp (lstAt_lst hk), ?_⟩
  · subst he
    walk_at "rd"
    exact q G2 p e2 hp h2
  · subst he
    have hpl : (ddup pre).length ≤ 100000 := by
      have := (ddup_mem pre).2
      have h3 := congrArg List.length hl
      rw [List.length_append, List.length_cons] at h3
      omega
    walk_at "rd"
    refine ⟨Nat.zero_le _, fun w hw => ?_⟩
    have e3 : Ext G2 (up G2 w (.lst [])) := Ext.up hw
    have h3 := e3 _ _ h2
    refine eq_nil (lstAt_lst h3) lst_up ⟨_, rfl, ?_⟩
    have add : (ddup pre).getLast? ≠ some x → K [some (enc y), some (.ref p), some (.str x)] (up (up G2 w (.lst [])) p (.lst ((ddup pre).map enc ++ [.str x]))) := fun hne =>
      hK _ _ ⟨⟨_, rfl⟩, (e2.trans e3).put hp, (x2.trans e3.e).put, by rw [up_same, ddup_snoc]; unfold addd; rw [if_neg hne, List.map_append]; rfl⟩
    cases hd : ddup pre with
    | nil =>
      rw [List.map_nil, List.isEmpty_nil, if_pos rfl]
      rw [hd] at h3 add
      exact ⟨some_lst (lstAt_lst h3), app_m h3 (by decide) (add (by simp))⟩
    | cons a r =>
      rw [List.map_cons, List.isEmpty_cons, if_neg Bool.false_ne_true]
      obtain ⟨z, hz⟩ : ∃ z, (ddup pre).getLast? = some z := by rw [hd]; exact ⟨_, List.getLast?_eq_getLast (by simp)⟩
      refine ⟨1, rfl, ix_l (lstAt_lst h3) (at_last hz) (neE z x ⟨_, rfl, ?_⟩)⟩
      by_cases hzx : z = x
      · rw [if_neg (by simp [hzx])]
        refine hK _ _ ⟨⟨_, rfl⟩, e2.trans e3, x2.trans e3.e, ?_⟩
        rw [h3, ddup_snoc]
        unfold addd
        rw [if_pos (by rw [hz, hzx])]
      · rw [if_pos (by simp [hzx])]
        exact ⟨some_lst (lstAt_lst h3), app_m h3 (by rw [List.length_map]; omega) (add (by rw [hz]; intro e; exact hzx (Option.some.inj e)))⟩
/-! ### steps_on -/
abbrev Pr := Yrd × Yrd
structure PairOk (n : Nat) (p : Pr) : Prop where
  one : ∀ c ∈ p.1, c ≠ []
  two : ∀ c ∈ p.2, c ≠ []
  kinds : p.1.flatten.Perm p.2.flatten
  size : p.1.flatten.length = n
def dictP (lv : List (Pr × Col)) : List (Pr × D) := lv.map fun e => (e.1, enc e.2)
theorem dictP_keys (lv : List (Pr × Col)) : (dictP lv).map (·.1) = lv.map (·.1) := by unfold dictP; rw [List.map_map]; rfl
theorem dictP_items (lv : List (Pr × Col)) : ((DL.encM (dictP lv)).map fun p => D.tup [p.2.1, p.2.2]) = lv.map fun e => D.tup [enc e.1, enc e.2] := by
  unfold DL.encM dictP
  rw [List.map_map, List.map_map]; rfl
theorem pairOk_y {n : Nat} {p : Pr} (h : PairOk n p) (hn : n ≤ 7) : OkY p.1 ∧ OkY p.2 := ⟨⟨h.one, by rw [h.size]; omega⟩, h.two, by rw [← h.kinds.length_eq, h.size]; omega⟩
theorem pairOk_next {n : Nat} {p : Pr} (h : PairOk n p) {k : Str} {c d : Col} (hc : Chosen p.1 k c) (hd : Chosen p.2 k d) : PairOk (n - 1) (behindC p.1 k c, behindC p.2 k d) := by
  have hk : k ∈ p.1.flatten := List.mem_flatten.mpr ⟨c, hc.mem, hc.kc⟩
  refine ⟨behind_ne _ _ _, behind_ne _ _ _, ?_, ?_⟩
  · exact (behind_kinds hc.mem hc.kc).trans ((h.kinds.erase k).trans (behind_kinds hd.mem hd.kc).symm)
  · rw [(behind_kinds hc.mem hc.kc).length_eq, List.length_erase_of_mem hk, h.size]
/-- what a pull of k told of both yards: alike digs, and the pair behind is known -/
def Saw (fu : List Pr) (p : Pr) (k : Str) : Prop := ∃ c d, Chosen p.1 k c ∧ Chosen p.2 k d ∧ depI k c = depI k d ∧ (behindC p.1 k c = behindC p.2 k d ∨ (behindC p.1 k c, behindC p.2 k d) ∈ fu)
theorem Saw.mono {fu fu' : List Pr} {p : Pr} {k : Str} (h : Saw fu p k) (m : ∀ x ∈ fu, x ∈ fu') : Saw fu' p k := by
  obtain ⟨c, d, h1, h2, h3, h4⟩ := h
  exact ⟨c, d, h1, h2, h3, h4.imp id (m _)⟩
def Apart (p : Pr) : Prop := setOut p.1 ≠ setOut p.2
theorem saw_apart {n : Nat} {p : Pr} {fu : List Pr} (ok : PairOk n p) (ap : Apart p) (h : ∀ k ∈ p.1.flatten, Saw fu p k) : ∃ q ∈ fu, Apart q := by
  apply Classical.byContradiction
  intro hn
  refine ap (uniq81 ok.one ok.two fun k hk => ?_)
  have hk1 : k ∈ p.1.flatten := hk.elim id fun z => ok.kinds.mem_iff.mpr z
  obtain ⟨c, d, h1, h2, h3, h4⟩ := h k hk1
  refine ⟨c, d, h1.mem, h2.mem, h1.kc, h2.kc, h3, ?_⟩
  rcases h4 with h4 | h4
  · rw [h4]
  · exact Classical.byContradiction fun ne => hn ⟨_, h4, ne⟩
structure LvOk (n : Nat) (lv : List (Pr × Col)) : Prop where
  nodup : (lv.map (·.1)).Nodup
  ok : ∀ e ∈ lv, PairOk n e.1 ∧ e.2.length + n ≤ 7
  apart : ∃ e ∈ lv, Apart e.1
def spSteps : SpD := fun ds G Q => ∃ (a : Addr) (lv : List (Pr × Col)) (n : Nat), ds = [.ref a] ∧ G a = some (.dn (DL.encM (dictP lv))) ∧ LvOk n lv ∧ n ≤ 7 ∧ lv.length ≤ 1000000 ∧
  ∀ G' q (found : Col) (fu : List (Pr × Col)), Ext G G' → G q = none → G' q = some (.dn (DL.encM (dictP fu))) → (found ≠ [] ∨ (found = [] ∧ LvOk (n - 1) fu ∧ fu.length ≤ lv.length * n)) → Q (.tup [enc found, .ref q]) G'
theorem k_steps_on (ds : List D) (G : Gp) (Q : DK) (h : spSteps ds G Q) : r_steps_on spFrom spPulled { nx := fun _ G' => Q .non G', rt := Q } (startD ["level", "further", "kinds", "kind", "yard", "other", "one", "behind", "two", "beside"] ds) G := by
  obtain ⟨a, lv, n, rfl, ha, ok, hn, hlen, q⟩ := h
  unfold r_steps_on
  walk_at "rd"
  refine .inl fun f hf => ?_
  have haf : a ≠ f := ne_of ha hf
  refine ⟨a, _, up_get ha hf, fun u => ⟨a, u, _, rfl, up_same, ?_⟩⟩
  rw [dictP_items]
  obtain ⟨G1, hG1⟩ : ∃ g, g = up (up G f (.dn [])) a (.dnl u (DL.encM (dictP lv))) := ⟨_, rfl⟩
  rw [← hG1]
  have a1 : G1 a = some (.dnl u (DL.encM (dictP lv))) := by rw [hG1, up_same]
  have f1 : G1 f = some (.dn (DL.encM (dictP []))) := by rw [hG1, up_ne (Ne.symm haf), up_same]; rfl
  -- back to the open dict
  have back : ∀ G2, ExtE f G1 G2 → Ext G (up G2 a (.dn (DL.encM (dictP lv)))) := fun G2 x => ⟨fun b o hb => by
    by_cases hba : b = a
    · subst hba
      rw [ha] at hb
      cases hb
      exact up_same
    · have nf : b ≠ f := fun z => by rw [z, hf] at hb; cases hb
      rw [up_ne hba]
      exact x b o nf (by rw [hG1, up_ne hba, up_ne nf]; exact hb), fun b r hb => by
    by_cases hba : b = a
    · subst hba; rw [up_same] at hb; cases hb
    · rw [up_ne hba] at hb
      have h1 := x.tb b r hb
      rw [hG1, up_ne hba] at h1
      by_cases hbf : b = f
      · subst hbf; rw [up_same] at h1; cases h1
      · rw [up_ne hbf] at h1; exact h1⟩
  refine forD_map (fun pre env G2 => (∃ o2 o3 o4 o5 o6 o7 o8 o9, env = [some (.ref a), some (.ref f), o2, o3, o4, o5, o6, o7, o8, o9]) ∧ ExtE f G1 G2 ∧ ∃ fu, G2 f = some (.dn (DL.encM (dictP fu))) ∧ (fu.map (·.1)).Nodup ∧ (∀ e ∈ fu, PairOk (n - 1) e.1 ∧ e.2.length + (n - 1) ≤ 7) ∧ fu.length ≤ pre.length * n ∧ ∀ e ∈ pre, ∀ k ∈ e.1.1.flatten, Saw (fu.map (·.1)) e.1 k)
    ⟨⟨_, _, _, _, _, _, _, _, rfl⟩, ExtE.refl _ _, [], f1, List.nodup_nil, (fun e he => by cases he), Nat.zero_le _, (fun e he => by cases he)⟩
    (fun env G2 ⟨⟨o2, o3, o4, o5, o6, o7, o8, o9, he⟩, x2, fu, h1, h2, h3, h4, h5⟩ => ⟨x2 _ _ haf a1, x2 _ _ haf a1, ?_⟩)
    fun pre x post env G2 K hl ⟨⟨o2, o3, o4, o5, o6, o7, o8, o9, he⟩, x2, fu, h1, h2, h3, h4, h5⟩ hK => ⟨x2 _ _ haf a1, ?_⟩
  · subst he
    walk_at "rd"
    refine ⟨sz_of (by decide), sz_of (by decide), q _ f [] fu (back G2 x2) hf (by rw [up_ne (Ne.symm haf)]; exact h1) (.inr ⟨rfl, ⟨h2, h3, ?_⟩, h4⟩)⟩
    obtain ⟨e, he, hap⟩ := ok.apart
    obtain ⟨p, hp, hap2⟩ := saw_apart (ok.ok e he).1 hap (h5 e he)
    obtain ⟨e2, he2, rfl⟩ := List.mem_map.mp hp
    exact ⟨e2, he2, hap2⟩
  · subst he
    have hx : x ∈ lv := by rw [hl]; simp
    obtain ⟨okx, sx⟩ := ok.ok x hx
    obtain ⟨oy, oz⟩ := pairOk_y okx hn
    walk_at "rd"
    refine ⟨_, rfl, rfl, _, _, rfl, ⟨_, rfl, rfl, _, _, rfl, _, _, rfl, rfl, _, _, rfl, rfl, x.1.1, rfl, oy.2, fun G3 pl e3 hpl h6 => ⟨_, _, .lst (lstAt_lst h6), ?_⟩⟩⟩
    have plf : pl ≠ f := fun z => by rw [z, h1] at hpl; cases hpl
    obtain ⟨dm, dl⟩ := ddup_mem (srt x.1.1.flatten)
    have sl := srt_len x.1.1.flatten
    have hks : ∀ k, k ∈ ddup (srt x.1.1.flatten) ↔ k ∈ x.1.1.flatten := fun k => (dm k).trans mem_srt
    refine forD_map (fun pre2 env G4 => (∃ o3 o6 o7 o8 o9, env = [some (.ref a), some (.ref f), some (enc x.2), o3, some (enc x.1.1), some (enc x.1.2), o6, o7, o8, o9]) ∧ ExtE f G3 G4 ∧ ∃ fu2, G4 f = some (.dn (DL.encM (dictP fu2))) ∧ (fu2.map (·.1)).Nodup ∧ (∀ e ∈ fu2, PairOk (n - 1) e.1 ∧ e.2.length + (n - 1) ≤ 7) ∧ fu2.length ≤ fu.length + pre2.length ∧ (∀ e ∈ fu.map (·.1), e ∈ fu2.map (·.1)) ∧ ∀ k ∈ pre2, Saw (fu2.map (·.1)) x.1 k)
      ⟨⟨_, _, _, _, _, rfl⟩, ExtE.refl _ _, fu, e3 _ _ h1, h2, h3, Nat.le_refl _, (fun e he => he), (fun k hk => by cases hk)⟩
      (fun env G4 ⟨⟨o3, o6, o7, o8, o9, he⟩, x4, fu2, g1, g2, g3, g4, g5, g6⟩ => ⟨x4.lst plf (lstAt_lst h6), ?_⟩)
      fun pre2 k post2 env G4 K2 hl2 ⟨⟨o3, o6, o7, o8, o9, he⟩, x4, fu2, g1, g2, g3, g4, g5, g6⟩ hK2 => ⟨x4.lst plf (lstAt_lst h6), ?_⟩
    · refine hK _ _ ⟨⟨_, _, _, _, _, _, _, _, he⟩, x2.trans (e3.e.trans x4), fu2, g1, g2, g3, ?_, fun e he k hk => ?_⟩
      · rw [List.length_append, List.length_singleton, Nat.add_mul]
        have := okx.size
        omega
      · rcases List.mem_append.mp he with he | he
        · exact (h5 e he k hk).mono g5
        · rw [List.mem_singleton.mp he] at hk ⊢
          exact g6 k ((hks k).mpr hk)
    · subst he
      have hk2 : k ∈ x.1.1.flatten := (hks k).mp (by rw [hl2]; simp)
      have hk3 : k ∈ x.1.2.flatten := okx.kinds.mem_iff.mp hk2
      have x14 := x2.trans (e3.e.trans x4)
      walk_at "rd"
      refine ⟨x.1.1, k, rfl, oy, fun G5 e5 => ⟨fun z => absurd hk2 z, fun c hc => ?_⟩⟩
      refine ⟨_, rfl, rfl, _, _, rfl, _, _, rfl, rfl, x.1.2, k, rfl, oz, fun G6 e6 => ⟨fun z => absurd hk3 z, fun d hd => ?_⟩⟩
      refine ⟨_, rfl, rfl, _, _, rfl, _, _, rfl, rfl, neE (depI k c) (depI k d) ⟨_, rfl, ?_⟩⟩
      have e56 := e5.trans e6
      have x6 := x14.trans e56.e
      by_cases hdep : depI k c = depI k d
      · rw [if_neg (by simp [hdep])]
        refine neE (behindC x.1.1 k c) (behindC x.1.2 k d) ⟨_, rfl, ?_⟩
        by_cases hb : behindC x.1.1 k c = behindC x.1.2 k d
        · rw [if_neg (by simp [hb])]
          rw [if_neg (by decide)]
          refine hK2 _ _ ⟨⟨_, _, _, _, _, rfl⟩, x4.trans e56.e, fu2, e56 _ _ g1, g2, g3, by rw [List.length_append]; omega, g5, fun k' hk' => ?_⟩
          rcases List.mem_append.mp hk' with h | h
          · exact g6 k' h
          · rw [List.mem_singleton.mp h]
            exact ⟨c, d, hc, hd, hdep, .inl hb⟩
        · rw [if_pos (by simp [hb])]
          refine ⟨sz_of (by decide), nin_n (behindC x.1.1 k c, behindC x.1.2 k d) (dnOf_dn (e56 _ _ g1)) rfl ⟨_, rfl⟩ ⟨_, rfl, ?_⟩⟩
          by_cases hm : (behindC x.1.1 k c, behindC x.1.2 k d) ∈ fu2.map (·.1)
          · rw [if_neg (by rw [look_some.mpr (by rw [dictP_keys]; exact hm)]; decide)]
            refine hK2 _ _ ⟨⟨_, _, _, _, _, rfl⟩, x4.trans e56.e, fu2, e56 _ _ g1, g2, g3, by rw [List.length_append]; omega, g5, fun k' hk' => ?_⟩
            rcases List.mem_append.mp hk' with h | h
            · exact g6 k' h
            · rw [List.mem_singleton.mp h]
              exact ⟨c, d, hc, hd, hdep, .inr hm⟩
          · have hnl : (look (dictP fu2) (behindC x.1.1 k c, behindC x.1.2 k d)).isSome = false := by
              cases hz : (look (dictP fu2) (behindC x.1.1 k c, behindC x.1.2 k d)).isSome with
              | false => rfl
              | true => exact absurd (by rw [← dictP_keys]; exact look_some.mp hz) hm
            rw [hnl, if_pos (by decide)]
            refine ⟨sz_of (by decide), add_t (sz_of (by rw [List.length_map]; simp; omega)) ⟨sz_of (by decide), ?_⟩⟩
            have fl : fu2.length < 16000000 := by
              have h7 := congrArg List.length hl
              rw [List.length_append, List.length_cons] at h7
              have h8 := congrArg List.length hl2
              rw [List.length_append, List.length_cons] at h8
              have h9 := okx.size
              have : pre.length * n ≤ 1000000 * 7 := Nat.mul_le_mul (by omega) hn
              omega
            refine set_n (behindC x.1.1 k c, behindC x.1.2 k d) (e56 _ _ g1) rfl ⟨_, rfl⟩ (by unfold dictP; rw [List.length_map]; exact fl) ?_
            have put : putA (dictP fu2) (behindC x.1.1 k c, behindC x.1.2 k d) (.tup ((x.2.map enc) ++ [enc k])) = dictP (fu2 ++ [((behindC x.1.1 k c, behindC x.1.2 k d), x.2 ++ [k])]) := by
              unfold putA
              rw [hnl, if_neg (by decide)]
              unfold dictP
              rw [List.map_append, List.map_singleton]
              congr 3
              show D.tup _ = D.tup ((x.2 ++ [k]).map enc)
              rw [List.map_append]; rfl
            have okn := pairOk_next okx hc hd
            have n0 : 0 < n := by rw [← okx.size]; exact List.length_pos_of_mem hk2
            refine hK2 _ _ ⟨⟨_, _, _, _, _, rfl⟩, (x4.trans e56.e).put, fu2 ++ [((behindC x.1.1 k c, behindC x.1.2 k d), x.2 ++ [k])], by rw [up_same]; exact congrArg (fun m => some (DO.dn (DL.encM m))) put, ?_, fun e he => ?_, by rw [List.length_append, List.length_append, List.length_singleton, List.length_singleton]; omega, fun e he => ?_, fun k' hk' => ?_⟩
            · rw [List.map_append]
              exact List.nodup_append.mpr ⟨g2, by simp, fun y hy z hz e => hm (by rw [List.map_singleton, List.mem_singleton] at hz; rw [hz] at e; rw [← show y = (behindC x.1.1 k c, behindC x.1.2 k d) from e]; exact hy)⟩
            · rcases List.mem_append.mp he with he | he
              · exact g3 e he
              · rw [List.mem_singleton.mp he]
                refine ⟨okn, ?_⟩
                show (x.2 ++ [k]).length + (n - 1) ≤ 7
                rw [List.length_append, List.length_singleton]; omega
            · rw [List.map_append]; exact List.mem_append_left _ (g5 e he)
            · rcases List.mem_append.mp hk' with h | h
              · exact (g6 k' h).mono fun p hp => by rw [List.map_append]; exact List.mem_append_left _ hp
              · rw [List.mem_singleton.mp h]
                exact ⟨c, d, hc, hd, hdep, .inr (by rw [List.map_append]; simp)⟩
      · rw [if_pos (by simp [hdep])]
        refine ⟨sz_of (by decide), add_t (sz_of (by rw [List.length_map]; simp; omega)) (.inl fun w hw => ?_)⟩
        have e7 : Ext G6 (up G6 w (.dn [])) := Ext.up hw
        have x7 := x6.trans e7.e
        have aw : w ≠ a := fun z => by rw [z, x6 _ _ haf a1] at hw; cases hw
        have gw : G w = none := by
          cases hz : G w with
          | none => rfl
          | some o =>
            have wf : w ≠ f := fun z => by rw [z, e56 _ _ g1] at hw; cases hw
            have := x6 w o wf (by rw [hG1, up_ne aw, up_ne wf]; exact hz)
            rw [hw] at this; cases this
        refine ⟨sz_of (by decide), x7 _ _ haf a1, ?_⟩
        have := q _ w (x.2 ++ [k]) [] (back _ x7) gw (by rw [up_ne aw, up_same]; rfl) (.inl (by simp))
        have e : (enc (x.2 ++ [k]) : D) = .tup (x.2.map enc ++ [enc k]) := by show D.tup ((x.2 ++ [k]).map enc) = _; rw [List.map_append]; rfl
        rw [e] at this
        exact this
end W81
end
section
set_option Elab.async false
set_option linter.all false
set_option maxRecDepth 100000
set_option maxHeartbeats 4000000
namespace W81
open PySem PySem.Spec PyProof.Rows L2 DL
local macro_rules | `(tactic| walk_at "rd") => `(tactic| simp only [dSeq, dIfS, dOrT, dAndT, dNotT, dTest, dRet, dRetN, dAndV, dOrV, dNotV, dB, dCons, dNil, dC, dVar_iff, dBin, dChain, dAsg, dgName, dgTup, dgCons, dgNil, dCall, dTup, dLst, dNeg, dIf, dDrop, dNext, dYes, turnD, wipeD, dLc, diSeq, dSl, doSome, doNone, dM, dM0, dFor, dOr, dgSub, dIsN, dNotN, dEnum, dRange1, dRange2, dZip, dListZip, dAug, dPar, dRev, dRevL, dZipY, dKeysN, dValsN, dItemsN, dLockE, dLockS, dSetdef, dDNewN, dDNew, dDispN, dDisp, dCallX, dDropX, dRetX, dAsgX, dRaise, dCallL, dCallR, dCallXR, dLc2, turn2, startD, List.map_cons, List.map_nil, List.cons_append, List.nil_append, List.length_cons, List.length_nil, Nat.reduceAdd, Nat.reduceSub, Nat.zero_add, List.reduceReplicate, List.replicate_succ, List.replicate_zero, List.getElem?_cons_zero, List.getElem?_cons_succ, List.set_cons_zero, List.set_cons_succ, if_true])
/-! ### parting, judge_like -/
def spParting : SpD := fun ds G Q => ∃ (p : Pr) (n : Nat), ds = [enc p.1, enc p.2] ∧ PairOk n p ∧ n ≤ 7 ∧ ∀ G' (found : Col), Ext G G' → (found = [] ↔ setOut p.1 = setOut p.2) → Q (enc found) G'
theorem k_parting (ds : List D) (G : Gp) (Q : DK) (h : spParting ds G Q) : r_parting spSteps spOut { nx := fun _ G' => Q .non G', rt := Q } (startD ["yard", "other", "level", "found"] ds) G := by
  obtain ⟨p, n, rfl, ok, hn, q⟩ := h
  obtain ⟨oy, oz⟩ := pairOk_y ok hn
  unfold r_parting
  walk_at "rd"
  refine ⟨p.1, rfl, oy, fun G1 e1 => ⟨p.2, rfl, oz, fun G2 e2 => eqE (setOut p.1) (setOut p.2) ⟨_, rfl, ?_⟩⟩⟩
  have e02 := e1.trans e2
  by_cases hs : setOut p.1 = setOut p.2
  · rw [if_pos (by simp [hs])]
    exact ⟨Nat.zero_le _, q G2 [] e02 ⟨fun _ => hs, fun _ => rfl⟩⟩
  · rw [if_neg (by simp [hs])]
    intro a ha
    refine ⟨sz_of (by decide), Nat.zero_le _, up_same, [enc p.1, enc p.2], key p, rfl, Enc.nk_key p, key8 p (by decide), ?_⟩
    rw [up_up]
    refine dWhile_ind (fun m env G3 => ∃ b lv o3, env = [some (enc p.1), some (enc p.2), some (.ref b), o3] ∧ Ext G G3 ∧ G3 b = some (.dn (DL.encM (dictP lv))) ∧ LvOk m lv ∧ m ≤ n ∧ lv.length ≤ 7 ^ (n - m)) n ⟨a, [(p, [])], _, rfl, e02.put (e02.fresh ha), by rw [up_same]; rfl, ⟨by simp, (fun e he => by rw [List.mem_singleton.mp he]; exact ⟨ok, by simp; exact hn⟩), ⟨_, List.mem_singleton.mpr rfl, hs⟩⟩, Nat.le_refl _, by simp⟩
      fun m env G3 K ⟨b, lv, o3, he, e3, hb, hl, hm, hz⟩ hK => ?_
    subst he
    walk_at "rd"
    refine .inl fun w hw => ?_
    have hne : lv ≠ [] := fun z => by obtain ⟨e, h1, _⟩ := hl.apart; rw [z] at h1; cases h1
    have e4 : Ext G3 (up G3 w (.dn [])) := Ext.up hw
    have hb4 := e4 _ _ hb
    refine .inr (.inr ⟨b, w, _, rfl, rfl, dnOf_dn hb4, dnOf_dn up_same, ⟨_, rfl, ?_⟩⟩)
    have : (DL.encM (dictP lv)).isEmpty = false := by
      cases lv with
      | nil => exact (hne rfl).elim
      | cons e r => rfl
    rw [this, if_pos (by decide)]
    have p7 : 7 ^ (n - m) ≤ 7 ^ 7 := Nat.pow_le_pow_right (by decide) (by omega)
    refine ⟨b, lv, m, rfl, hb4, hl, by omega, Nat.le_trans hz (Nat.le_trans p7 (by decide)), fun G5 q5 found fu e5 hq5 h5 hr => ?_⟩
    refine ⟨_, rfl, rfl, _, _, rfl, _, _, rfl, rfl, ?_⟩
    have e05 := (e3.trans e4).trans e5
    refine ⟨Nat.zero_le _, ne_emp (okd8 found (by decide)) ⟨_, rfl, ?_⟩⟩
    rw [List.isEmpty_map]
    rcases hr with hr | ⟨hr, h6, h7⟩
    · have : found.isEmpty = false := by simpa using hr
      rw [this, if_pos (by decide)]
      exact q G5 found e05 ⟨fun z => absurd z hr, fun z => absurd z hs⟩
    · subst hr
      rw [List.isEmpty_nil, if_neg (by decide)]
      obtain ⟨e, he, hap⟩ := hl.apart
      have m0 : 0 < m := by
        have sz := (hl.ok e he).1
        rcases Nat.eq_zero_or_pos m with z | z
        · exfalso
          rw [z] at sz
          have f1 : e.1.1.flatten = [] := List.length_eq_zero_iff.mp sz.size
          have f2 : e.1.2.flatten = [] := by
            have := sz.kinds
            rw [f1] at this
            exact this.symm.eq_nil
          have nil : ∀ y : Yrd, (∀ c ∈ y, c ≠ []) → y.flatten = [] → y = [] := fun y hy hf => by
            cases y with
            | nil => rfl
            | cons c y =>
              rw [List.flatten_cons, List.append_eq_nil_iff] at hf
              exact absurd hf.1 (hy c List.mem_cons_self)
          exact hap (by rw [nil _ sz.one f1, nil _ sz.two f2])
        · exact z
      refine hK (m - 1) _ _ (by omega) ⟨q5, fu, _, rfl, e05, h5, h6, by omega, ?_⟩
      calc fu.length ≤ lv.length * m := h7
        _ ≤ 7 ^ (n - m) * 7 := Nat.mul_le_mul hz (by omega)
        _ = 7 ^ (n - m + 1) := (Nat.pow_succ ..).symm
        _ = 7 ^ (n - (m - 1)) := by congr 1; omega
def alikeD : D := .tup [.str "alike"]
def paperD (found : Col) : D := if found = [] then alikeD else .tup [.str "unlike", enc found]
theorem lk2_yrd (G : Gp) (y : Yrd) (h : ∀ k ∈ y.flatten, k.length ≤ 16000000) : Lk2 G (enc y) := ⟨trivial, fun l e d hd => by
  cases e
  obtain ⟨c, hc, rfl⟩ := List.mem_map.mp hd
  refine ⟨trivial, fun m em x hx => ?_⟩
  cases em
  obtain ⟨k, hk, rfl⟩ := List.mem_map.mp hx
  exact ⟨trivial, fun z e => by cases e; exact sz_of (h k (List.mem_flatten.mpr ⟨c, hc, hk⟩))⟩⟩
theorem Lk2.ext {G G' : Gp} (x : Ext G G') {d : D} (h : Lk2 G d) : Lk2 G' d := ⟨h.1.ext x, fun l e d hd => ⟨(h.2 l e d hd).1.ext x, fun m em y hy => ((h.2 l e d hd).2 m em y hy).ext x⟩⟩
def spJudge (C : Addr) : SpX := fun ds G Q QX => ∃ (p : Pr) (n : Nat), ds = [enc p.1, enc p.2] ∧ PairOk n p ∧ n ≤ 7 ∧ isYrdD (enc p.1) = true ∧ isYrdD (enc p.2) = true ∧ Lk2 G (enc p.1) ∧ Lk2 G (enc p.2) ∧ ∀ G' (found : Col), Ext G G' → (found = [] ↔ setOut p.1 = setOut p.2) → Q (paperD found) G'
theorem k_judge_like (C : Addr) (ds : List D) (G : Gp) (Q : DK) (QX : XQ) (h : spJudge C ds G Q QX) : r_judge_like spParting spKinds (spNeed C) C { nx := fun _ G' => Q .non G', rt := Q, ex := QX } (startD ["yard", "other", "found"] ds) G := by
  obtain ⟨p, n, rfl, ok, hn, y1, y2, l1, l2, q⟩ := h
  obtain ⟨oy, oz⟩ := pairOk_y ok hn
  unfold r_judge_like
  walk_at "rd"
  refine ⟨enc p.1, rfl, l1, fun G1 e1 => ?_⟩
  rw [if_pos y1]
  refine ⟨enc p.2, rfl, l2.ext e1, fun G2 e2 => ?_⟩
  rw [if_pos y2]
  refine ⟨p.1, rfl, oy.2, fun G3 p3 e3 hp3 h3 => ⟨p.2, rfl, oz.2, fun G4 p4 e4 hp4 h4 => ?_⟩⟩
  have h3' : G3 p3 = some (.lst ((srt p.1.flatten).map D.str)) := h3
  have h4' : G4 p4 = some (.lst ((srt p.2.flatten).map D.str)) := h4
  have es : srt p.1.flatten = srt p.2.flatten := srt_eq ok.kinds
  refine ne_lists (srt p.1.flatten) (srt p.2.flatten) (lstAt_lst (e4 _ _ h3')) (lstAt_lst h4') ⟨_, rfl, ?_⟩
  rw [if_neg (by simp [es])]
  refine ⟨p, n, rfl, ok, hn, fun G5 found e5 hf => ?_⟩
  refine ⟨Nat.zero_le _, eq_emp (okd8 found (by decide)) ⟨_, rfl, ?_⟩⟩
  have := q G5 found ((((e1.trans e2).trans e3).trans e4).trans e5) hf
  unfold paperD at this
  rw [List.isEmpty_map]
  by_cases h0 : found = []
  · subst h0
    rw [List.isEmpty_nil, if_pos rfl]
    rw [if_pos rfl] at this
    exact this
  · rw [if_neg h0] at this
    have hi : found.isEmpty = false := by simpa using h0
    rw [hi, if_neg Bool.false_ne_true]
    exact ⟨sz_of (by decide), this⟩
end W81
end
section
set_option Elab.async false
set_option linter.all false
set_option maxRecDepth 100000
set_option maxHeartbeats 4000000
namespace W81
open PySem PySem.Spec PyProof.Rows L2 DL
local macro_rules | `(tactic| walk_at "rd") => `(tactic| simp only [dSeq, dIfS, dOrT, dAndT, dNotT, dTest, dRet, dRetN, dAndV, dOrV, dNotV, dB, dCons, dNil, dC, dVar_iff, dBin, dChain, dAsg, dgName, dgTup, dgCons, dgNil, dCall, dTup, dLst, dNeg, dIf, dDrop, dNext, dYes, turnD, wipeD, dLc, diSeq, dSl, doSome, doNone, dM, dM0, dFor, dOr, dgSub, dIsN, dNotN, dEnum, dRange1, dRange2, dZip, dListZip, dAug, dPar, dRev, dRevL, dZipY, dKeysN, dValsN, dItemsN, dLockE, dLockS, dSetdef, dDNewN, dDNew, dDispN, dDisp, dCallX, dDropX, dRetX, dAsgX, dRaise, dCallL, dCallR, dCallXR, dLc2, turn2, startD, List.map_cons, List.map_nil, List.cons_append, List.nil_append, List.length_cons, List.length_nil, Nat.reduceAdd, Nat.reduceSub, Nat.zero_add, List.reduceReplicate, List.replicate_succ, List.replicate_zero, List.getElem?_cons_zero, List.getElem?_cons_succ, List.set_cons_zero, List.set_cons_succ, if_true])
/-! ### the deck -/
def kL : Key := .inr "left"
def kM : Key := .inr "mixed"
def kR : Key := .inr "draws"
def dkD (la : Addr) (m r : Int) : List (Key × D) := [(kL, .ref la), (kM, .int m), (kR, .int r)]
theorem k_LM : (kL = kM) = False := eq_false (by unfold kL kM; decide +kernel)
theorem k_LR : (kL = kR) = False := eq_false (by unfold kL kR; decide +kernel)
theorem k_MR : (kM = kR) = False := eq_false (by unfold kM kR; decide +kernel)
theorem k_ML : (kM = kL) = False := eq_false fun h => k_LM.mp h.symm
theorem k_RL : (kR = kL) = False := eq_false fun h => k_LR.mp h.symm
theorem k_RM : (kR = kM) = False := eq_false fun h => k_MR.mp h.symm
theorem val_L {la : Addr} {m r : Int} : valK (dkD la m r) kL = some (.ref la) := by
  unfold valK dkD
  simp only [List.find?_cons, decide_true, Option.map_some]
theorem val_M {la : Addr} {m r : Int} : valK (dkD la m r) kM = some (.int m) := by
  unfold valK dkD
  simp only [List.find?_cons, k_LM, decide_false, decide_true, Option.map_some]
theorem val_R {la : Addr} {m r : Int} : valK (dkD la m r) kR = some (.int r) := by
  unfold valK dkD
  simp only [List.find?_cons, k_LR, k_MR, decide_false, decide_true, Option.map_some]
theorem put_R {la : Addr} {m r i : Int} : putD (dkD la m r) kR (.int i) = dkD la m i := by
  unfold putD dkD
  simp only [List.any_cons, List.any_nil, decide_true, Bool.true_or, Bool.or_true, if_true, List.map_cons, List.map_nil, k_LR, k_MR, if_false]
/-- a deck stands there -/
def Deck (G : Gp) (d la : Addr) : Prop := ∃ (m r : Int) (cells : List Int), G d = some (.dk (dkD la m r)) ∧ G la = some (.lst (cells.map D.int)) ∧ cells.length ≤ 1000
/-- what is no part of the deck stays; no new table -/
structure ExtD (d la : Addr) (G G' : Gp) : Prop where
  old : ∀ a o, a ≠ d → a ≠ la → G a = some o → G' a = some o
  tb : ∀ a r, G' a = some (.tb r) → G a = some (.tb r)
instance {d la : Addr} {G G' : Gp} : CoeFun (ExtD d la G G') (fun _ => ∀ a o, a ≠ d → a ≠ la → G a = some o → G' a = some o) := ⟨ExtD.old⟩
theorem ExtD.refl (d la : Addr) (G : Gp) : ExtD d la G G := ⟨fun _ _ _ _ h => h, fun _ _ h => h⟩
theorem ExtD.trans {d la : Addr} {G G1 G2 : Gp} (a : ExtD d la G G1) (b : ExtD d la G1 G2) : ExtD d la G G2 := ⟨fun c o n1 n2 h => b.old c o n1 n2 (a.old c o n1 n2 h), fun c r h => a.tb c r (b.tb c r h)⟩
theorem _root_.DL.Ext.d {d la : Addr} {G G' : Gp} (x : Ext G G') : ExtD d la G G' := ⟨fun a o _ _ h => x.old a o h, x.tb⟩
theorem ExtD.putd {d la : Addr} {G G' : Gp} {o : DO} (x : ExtD d la G G') (nt : ∀ r, o ≠ .tb r := by intro _ z; cases z) : ExtD d la G (up G' d o) := ⟨fun a u n1 n2 h => by rw [up_ne n1]; exact x.old a u n1 n2 h, fun a r e => by
  by_cases z : a = d
  · subst z; rw [up_same] at e; exact absurd (Option.some.inj e) (nt r)
  · rw [up_ne z] at e; exact x.tb a r e⟩
theorem ExtD.putl {d la : Addr} {G G' : Gp} {o : DO} (x : ExtD d la G G') (nt : ∀ r, o ≠ .tb r := by intro _ z; cases z) : ExtD d la G (up G' la o) := ⟨fun a u n1 n2 h => by rw [up_ne n2]; exact x.old a u n1 n2 h, fun a r e => by
  by_cases z : a = la
  · subst z; rw [up_same] at e; exact absurd (Option.some.inj e) (nt r)
  · rw [up_ne z] at e; exact x.tb a r e⟩
/-- something new is written -/
theorem ExtD.putn {d la p : Addr} {G G' : Gp} {o : DO} (x : ExtD d la G G') (h : G p = none) (nt : ∀ r, o ≠ .tb r := by intro _ z; cases z) : ExtD d la G (up G' p o) := ⟨fun a u n1 n2 e => by
  have ne : a ≠ p := fun z => by rw [z, h] at e; cases e
  rw [up_ne ne]
  exact x.old a u n1 n2 e, fun a r e => by
  by_cases z : a = p
  · subst z; rw [up_same] at e; exact absurd (Option.some.inj e) (nt r)
  · rw [up_ne z] at e; exact x.tb a r e⟩
theorem Deck.ext {G G' : Gp} {d la : Addr} (h : Deck G d la) (x : Ext G G') : Deck G' d la := by
  obtain ⟨m, r, cells, h1, h2, h3⟩ := h
  exact ⟨m, r, cells, x _ _ h1, x _ _ h2, h3⟩
theorem Deck.ne {G : Gp} {d la : Addr} (h : Deck G d la) : d ≠ la := fun z => by
  obtain ⟨m, r, cells, h1, h2, _⟩ := h
  rw [z, h2] at h1
  cases h1
def spDraw : SpD := fun ds G Q => ∃ (d la : Addr) (n : Int), ds = [.ref d, .int n] ∧ 0 < n ∧ n < 1000000000 ∧ Deck G d la ∧ ∀ G' v, 0 ≤ v → v < n → Deck G' d la → ExtD d la G G' → Q (.int v) G'
theorem ixk {G : Gp} {Q : DK} {a : Addr} {kvs : List (Key × D)} {z : Str} {d : D} (e : G a = some (.dk kvs)) (h : valK kvs (.inr z) = some d) (q : Q d G) : oIxA (.ref a) (.str z) G Q := ix_k e rfl h q
theorem int1 {G : Gp} {Q : DK} {i : Int} (q : Q (.int i) G) : oInt [.int i] G Q := .inl ⟨i, rfl, q⟩
theorem mod_i {G : Gp} {Q : DK} {i j : Int} (h : j ≠ 0) (q : Q (.int (i.fmod j)) G) : oMod (.int i) (.int j) G Q := ⟨i, j, rfl, rfl, h, q⟩
theorem div_i {G : Gp} {Q : DK} {i j : Int} (h : 0 < j ∧ j < 1000000000) (q : Q (.int (i.fdiv j)) G) : oFdiv (.int i) (.int j) G Q := ⟨i, j, rfl, rfl, ⟨by omega, by omega⟩, q⟩
theorem mul_l {G : Gp} {Q : DK} {i j : Int} (h : -18446744073709551616 < i ∧ i < 18446744073709551616) (q : Q (.int (i * j)) G) : oMul (.int i) (.int j) G Q := ⟨i, j, rfl, rfl, .inl h, q⟩
theorem mul_r {G : Gp} {Q : DK} {i j : Int} (h : -18446744073709551616 < j ∧ j < 18446744073709551616) (q : Q (.int (i * j)) G) : oMul (.int i) (.int j) G Q := ⟨i, j, rfl, rfl, .inr h, q⟩
theorem pow_i {G : Gp} {Q : DK} {i j : Int} (h : 0 ≤ j ∧ j ≤ 1000000 ∧ i.natAbs < 18446744073709551616) (q : Q (.int (i ^ j.toNat)) G) : oPow (.int i) (.int j) G Q := ⟨i, j, rfl, rfl, h, q⟩
theorem max2 {G : Gp} {Q : DK} {i j : Int} (q : Q (.int (if j > i then j else i)) G) : oMax2 [.int i, .int j] G Q := ⟨i, j, rfl, q⟩
theorem set_k {G : Gp} {a : Addr} {kvs : List (Key × D)} {z : Str} {v : D} {Q : Gp → Prop} (e : G a = some (.dk kvs)) (h : kvs.length < 16000000) (q : Q (up G a (.dk (putD kvs (.inr z) v)))) : oSetA (.ref a) (.str z) v G Q := .inl ⟨a, kvs, .inr z, rfl, e, rfl, sz_lt h, q⟩
theorem fmod_bounds {i j : Int} (h : 0 < j) : 0 ≤ i.fmod j ∧ i.fmod j < j := ⟨Int.fmod_nonneg_of_pos i h, Int.fmod_lt_of_pos i h⟩
theorem k__law_draw (ds : List D) (G : Gp) (Q : DK) (h : spDraw ds G Q) : r__law_draw { nx := fun _ G' => Q .non G', rt := Q } (startD ["deck", "many", "figure", "cell"] ds) G := by
  obtain ⟨d, la, n, rfl, n0, n1, dk, q⟩ := h
  have hne := dk.ne
  obtain ⟨m, r, cells, h1, h2, hcl⟩ := dk
  unfold r__law_draw
  walk_at "rd"
  refine ixk h1 val_R (add_i (set_k h1 (by show 3 < _; decide) ?_))
  rw [show (Sum.inr (Str.ofString "draws") : Key) = kR from rfl, put_R]
  obtain ⟨G1, hG1⟩ : ∃ g, g = up G d (.dk (dkD la m (r + 1))) := ⟨_, rfl⟩
  rw [← hG1]
  have d1 : G1 d = some (.dk (dkD la m (r + 1))) := by rw [hG1, up_same]
  have l1 : G1 la = some (.lst (cells.map D.int)) := by rw [hG1, up_ne (Ne.symm hne)]; exact h2
  have x1 : ExtD d la G G1 := by rw [hG1]; exact (ExtD.refl _ _ _).putd
  refine ixk d1 val_M (ixk d1 val_R (mul_l (by decide) (add_i (ixk d1 val_L ⟨Nat.zero_le _, fun w hw => ne_nil (lstAt_lst (up_get l1 hw)) lst_up ⟨_, rfl, ?_⟩⟩))))
  have e2 : Ext G1 (up G1 w (.lst [])) := Ext.up hw
  obtain ⟨G2, hG2⟩ : ∃ g, g = up G1 w (.lst []) := ⟨_, rfl⟩
  rw [← hG2] at e2 ⊢
  have d2 := e2 _ _ d1
  have l2 := e2 _ _ l1
  have x2 := x1.trans e2.d
  -- the end, by what is mixed
  have fin : ∀ (fig : Int) (G3 : Gp) (cs : List Int) (o3 : Option D), G3 d = some (.dk (dkD la m (r + 1))) → G3 la = some (.lst (cs.map D.int)) → cs.length ≤ 1000 → ExtD d la G G3 →
      oMul (.int fig) (.int 39373) G3 fun x G1 => oAdd x (.int 37) G1 fun x G1 => oInt [x] G1 fun x G1 => oMod x (.int 2147483647) G1 fun d2 G1 =>
        oMul d2 d2 G1 fun x G1 => oIxA (.ref d) (.str "draws") G1 fun y G1 => oMul (.int 52713) y G1 fun y G1 => oAdd x y G1 fun x G1 => oAdd x (.int 37) G1 fun x G1 => oInt [x] G1 fun x G1 => oMod x (.int 2147483587) G1 fun d2 G1 =>
          oMul d2 (.int 40692) G1 fun x G1 => oInt [x] G1 fun x G1 => oMod x (.int 2147483563) G1 fun d2 G1 => oFdiv d2 (.int 64) G1 fun x G1 => oInt [x] G1 fun x G1 => oMod x (.int n) G1 Q := fun fig G3 cs o3 hd hl hcs hx => by
    refine mul_r (by decide) (add_i (int1 (mod_i (by decide) ?_)))
    obtain ⟨b1, b2⟩ := fmod_bounds (i := fig * 39373 + 37) (j := 2147483647) (by decide)
    refine mul_l (by omega) (ixk hd val_R (mul_l (by decide) (add_i (add_i (int1 (mod_i (by decide) ?_))))))
    refine mul_r (by decide) (int1 (mod_i (by decide) (div_i (by decide) (int1 (mod_i (by omega) ?_)))))
    obtain ⟨b3, b4⟩ := fmod_bounds (i := (((((fig * 39373 + 37).fmod 2147483647 * (fig * 39373 + 37).fmod 2147483647 + 52713 * (r + 1) + 37).fmod 2147483587) * 40692).fmod 2147483563).fdiv 64) (j := n) n0
    exact q G3 _ b3 b4 ⟨m, r + 1, cs, hd, hl, hcs⟩ hx
  rcases List.eq_nil_or_concat cells with hc | ⟨cs, cell, hc⟩
  · rw [hc] at l2 ⊢
    rw [List.map_nil, List.isEmpty_nil, if_neg (by decide)]
    exact fin _ G2 [] none d2 l2 (by simp) x2
  · rw [List.concat_eq_append] at hc
    rw [hc] at l2 ⊢
    rw [hc, List.length_append, List.length_singleton] at hcl
    have hcs : cs.length ≤ 1000 := by omega
    rw [List.map_append, if_pos (by simp)]
    refine ixk d2 val_L ⟨some_lst (lstAt_lst l2), la, cs.map D.int, .int cell, rfl, rfl, by rw [l2, List.map_append]; rfl, ?_⟩
    have d3 : up G2 la (.lst (cs.map D.int)) d = some (.dk (dkD la m (r + 1))) := by rw [up_ne hne]; exact d2
    have l3 : up G2 la (.lst (cs.map D.int)) la = some (.lst (cs.map D.int)) := up_same
    have x3 : ExtD d la G (up G2 la (.lst (cs.map D.int))) := x2.putl
    refine pow_i (by decide) (ge_i ⟨_, rfl, ?_⟩)
    by_cases hbig : ((10 : Int) ^ (18 : Int).toNat) ≤ cell
    · rw [if_pos (by simpa using hbig)]
      refine ixk d3 val_L ⟨some_lst (lstAt_lst l3), max2 (div_i ⟨by split <;> omega, by split <;> omega⟩ ?_)⟩
      refine app_m l3 (by rw [List.length_map]; omega) (int1 (mod_i (by omega) ?_))
      obtain ⟨b1, b2⟩ := fmod_bounds (i := cell) (j := n) n0
      rw [up_up]
      exact q _ _ b1 b2 ⟨m, r + 1, cs ++ [cell.fdiv (if n > 2 then n else 2)], by rw [up_ne hne]; exact d2, by rw [up_same, List.map_append]; rfl, by rw [List.length_append, List.length_singleton]; omega⟩ x2.putl
    · rw [if_neg (by simpa using hbig)]
      refine int1 (mod_i (by decide) (add_i ?_))
      exact fin _ _ cs none d3 l3 hcs x3
/-! ### picks -/
def spPick : SpD := fun ds G Q => ∃ (d la : Addr) (x : D) (l : List D), ds = [.ref d, x] ∧ (x = .tup l ∨ ∃ a, x = .ref a ∧ a ≠ d ∧ a ≠ la ∧ lstAt G a = some l) ∧ l ≠ [] ∧ l.length < 100000000 ∧ Deck G d la ∧ ∀ G' v, v ∈ l → Deck G' d la → ExtD d la G G' → Q v G'
theorem k__law_pick (ds : List D) (G : Gp) (Q : DK) (h : spPick ds G Q) : r__law_pick spDraw { nx := fun _ G' => Q .non G', rt := Q } (startD ["deck", "some"] ds) G := by
  obtain ⟨d, la, x, l, rfl, hx, hl, hn, dk, q⟩ := h
  unfold r__law_pick
  walk_at "rd"
  have l0 := List.length_pos_iff.mpr hl
  have pick : ∀ G' v, 0 ≤ v → v < (l.length : Int) → Deck G' d la → ExtD d la G G' → ∃ y, atI l v = some y ∧ Q y G' := fun G' v v0 v1 dk' x' => by
    obtain ⟨j, rfl⟩ : ∃ j : Nat, v = j := ⟨v.toNat, by omega⟩
    have hj : j < l.length := by omega
    exact ⟨l[j], atI_nat (List.getElem?_eq_getElem hj), q G' _ (List.getElem_mem hj) dk' x'⟩
  rcases hx with rfl | ⟨a, rfl, nd, nl, ha⟩
  · refine len_t ⟨d, la, _, rfl, by omega, by omega, dk, fun G' v v0 v1 dk' x' => ?_⟩
    obtain ⟨y, h1, h2⟩ := pick G' v v0 v1 dk' x'
    exact ix_t h1 h2
  · refine len_l ha ⟨d, la, _, rfl, by omega, by omega, dk, fun G' v v0 v1 dk' x' => ?_⟩
    obtain ⟨y, h1, h2⟩ := pick G' v v0 v1 dk' x'
    refine ix_l ?_ h1 h2
    unfold lstAt at ha ⊢
    cases e : G a with
    | none => rw [e] at ha; cases ha
    | some o => rw [e] at ha; rw [x'.old a o nd nl e]; exact ha
end W81
end
section
set_option Elab.async false
set_option linter.all false
set_option maxRecDepth 100000
set_option maxHeartbeats 4000000
namespace W81
open PySem PySem.Spec PyProof.Rows L2 DL
local macro_rules | `(tactic| walk_at "rd") => `(tactic| simp only [dSeq, dIfS, dOrT, dAndT, dNotT, dTest, dRet, dRetN, dAndV, dOrV, dNotV, dB, dCons, dNil, dC, dVar_iff, dBin, dChain, dAsg, dgName, dgTup, dgCons, dgNil, dCall, dTup, dLst, dNeg, dIf, dDrop, dNext, dYes, turnD, wipeD, dLc, diSeq, dSl, doSome, doNone, dM, dM0, dFor, dOr, dgSub, dIsN, dNotN, dEnum, dRange1, dRange2, dZip, dListZip, dAug, dPar, dRev, dRevL, dSlK, dZipY, dKeysN, dValsN, dItemsN, dLockE, dLockS, dSetdef, dDNewN, dDNew, dDispN, dDisp, dCallX, dDropX, dRetX, dAsgX, dRaise, dCallL, dCallR, dCallXR, dLc2, turn2, startD, List.map_cons, List.map_nil, List.cons_append, List.nil_append, List.length_cons, List.length_nil, Nat.reduceAdd, Nat.reduceSub, Nat.zero_add, List.reduceReplicate, List.replicate_succ, List.replicate_zero, List.getElem?_cons_zero, List.getElem?_cons_succ, List.set_cons_zero, List.set_cons_succ, if_true])
def spDeck (K : PySem.W.Frag) : SpD := fun ds G Q => ∃ (a : Addr) (ns : List Int), ds = [.ref a] ∧ ns.length ≤ 63 ∧ (lstAt G a = some (ns.map D.int) ∨ KList K a (ns.map V.int)) ∧ ∀ G' d la, Ext G G' → G d = none → G la = none → Deck G' d la → Q (.ref d) G'
theorem cut63 {ns : List Int} (h : ns.length ≤ 63) : DL.cutD (ns.map D.int) none (some 63) = ns.map D.int := by
  rw [show (63 : Int) = ((63 : Nat) : Int) from rfl, cut_head, List.take_of_length_le (by rw [List.length_map]; exact h)]
theorem merge_deck {la : Addr} {m : Int} : mergeD [] ([(Sum.inr (Str.ofString "left") : Key), Sum.inr (Str.ofString "mixed"), Sum.inr (Str.ofString "draws")].zip [D.ref la, D.int m, D.int 0]) = dkD la m 0 := by
  show mergeD [] [(kL, D.ref la), (kM, D.int m), (kR, D.int 0)] = _
  unfold mergeD
  simp only [List.foldl_cons, List.foldl_nil]
  unfold putD
  simp only [List.any_nil, List.nil_append, List.any_cons, k_LM, k_LR, k_MR, decide_false, Bool.or_self, Bool.false_eq_true, if_false, List.cons_append, Bool.or_false]
  rfl
theorem k__law_deck (K : PySem.W.Frag) (ds : List D) (G : Gp) (Q : DK) (h : spDeck K ds G Q) : r__law_deck K { nx := fun _ G' => Q .non G', rt := Q } (startD ["script", "mixed", "cell"] ds) G := by
  obtain ⟨a, ns, rfl, hn, ha, q⟩ := h
  unfold r__law_deck
  walk_at "rd"
  have slice : ∀ (G1 : Gp) (R : DK), Ext G G1 → (∀ p, G1 p = none → R (.ref p) (up G1 p (.lst (ns.map D.int)))) → (∃ i, D.int 63 = .int i ∧ SlD G1 none (some i) (.ref a) R) ∨ (∃ i, D.int 63 = .int i ∧ ∃ (a' : Addr) (ns' : List Int), D.ref a = .ref a' ∧ ns'.length ≤ sizeLine ∧ KList K a' (ns'.map V.int) ∧ ∀ p, G1 p = none → R (.ref p) (up G1 p (.lst (DL.cutD (ns'.map D.int) none (some i))))) := fun G1 R e1 hR => by
    rcases ha with h | h
    · exact .inl ⟨63, rfl, .lst (e1.lst h) (by rw [cut63 hn]; exact hR)⟩
    · exact .inr ⟨63, rfl, a, ns, rfl, sz_of (by omega), h, by rw [cut63 hn]; exact hR⟩
  refine slice G _ (Ext.refl G) fun p hp => ⟨_, _, .lst lst_up, ?_⟩
  have e1 : Ext G (up G p (.lst (ns.map D.int))) := Ext.up hp
  refine forD_map (fun pre env G1 => (∃ (m : Int) (o2 : Option D), env = [some (.ref a), some (.int m), o2]) ∧ G1 = up G p (.lst (ns.map D.int))) ⟨⟨_, _, rfl⟩, rfl⟩ (fun env G1 ⟨⟨m, o2, he⟩, hG⟩ => ⟨by rw [hG]; exact lst_up, ?_⟩) fun pre x post env G1 K hl ⟨⟨m, o2, he⟩, hG⟩ hK => ⟨by rw [hG]; exact lst_up, ?_⟩
  · subst he; subst hG
    walk_at "rd"
    intro d hd
    have gd : G d = none := e1.fresh hd
    refine .inl (slice _ _ (e1.put gd) fun p2 hp2 => ⟨_, _, .lst lst_up, mapD_map (fun i : Int => some i) D.int (fun G' e => e.lst lst_up) (fun i _ G1 R e2 hR => ?_) fun G2 e2 p3 hp3 => ?_⟩)
    · walk_at "rd"
      exact int1 (hR G1 (Ext.refl G1))
    · rw [filterMap_some, List.map_id']
      refine ⟨p3, _, rfl, lst_up, fun la hla => ?_⟩
      have e0 : Ext G G2 := ((e1.put gd).put ((e1.put gd).fresh hp2)).trans e2
      have d2 : G2 d = some (.dk []) := e2 _ _ (up_get up_same hp2)
      have e3 := e0.put (o := .lst (ns.map D.int)) (e0.fresh hp3)
      have gla := e3.fresh hla
      have d4 : up (up G2 p3 (.lst (ns.map D.int))) la (.lst (ns.map D.int).reverse) d = some (.dk []) := up_get (up_get d2 hp3) hla
      have hdla : d ≠ la := fun z => by rw [← z, up_get d2 hp3] at hla; cases hla
      refine ⟨d4, ?_⟩
      rw [merge_deck]
      refine q _ d la ((e3.put gla).put gd) gd gla ⟨m, 0, ns.reverse, up_same, ?_, by rw [List.length_reverse]; omega⟩
      rw [up_ne (Ne.symm hdla), up_same, List.map_reverse]
  · subst he
    walk_at "rd"
    refine mul_r (by decide) (int1 (mod_i (by decide) (add_i (add_i (int1 (mod_i (by decide) ?_))))))
    exact hK _ _ ⟨⟨_, _, rfl⟩, hG⟩
end W81
end
section
set_option Elab.async false
set_option linter.all false
set_option maxRecDepth 100000
set_option maxHeartbeats 4000000
namespace W81
open PySem PySem.Spec PyProof.Rows L2 DL
local macro_rules | `(tactic| walk_at "rd") => `(tactic| simp only [dSeq, dIfS, dOrT, dAndT, dNotT, dTest, dRet, dRetN, dAndV, dOrV, dNotV, dB, dCons, dNil, dC, dVar_iff, dBin, dChain, dAsg, dgName, dgTup, dgCons, dgNil, dCall, dTup, dLst, dNeg, dIf, dDrop, dNext, dYes, turnD, wipeD, dLc, diSeq, dSl, doSome, doNone, dM, dM0, dFor, dOr, dgSub, dIsN, dNotN, dEnum, dRange1, dRange2, dZip, dListZip, dAug, dPar, dRev, dRevL, dSlK, dZipY, dKeysN, dValsN, dItemsN, dLockE, dLockS, dSetdef, dDNewN, dDNew, dDispN, dDisp, dCallX, dDropX, dRetX, dAsgX, dRaise, dCallL, dCallR, dCallXR, dLc2, turn2, startD, List.map_cons, List.map_nil, List.cons_append, List.nil_append, List.length_cons, List.length_nil, Nat.reduceAdd, Nat.reduceSub, Nat.zero_add, List.reduceReplicate, List.replicate_succ, List.replicate_zero, List.getElem?_cons_zero, List.getElem?_cons_succ, List.set_cons_zero, List.set_cons_succ, if_true])
theorem Deck.far {G : Gp} {d la s : Addr} (h : Deck G d la) (hs : G s = none) : s ≠ d ∧ s ≠ la := by
  obtain ⟨m, r, cells, h1, h2, _⟩ := h
  exact ⟨(fun z => by rw [z, h1] at hs; cases hs), (fun z => by rw [z, h2] at hs; cases hs)⟩
theorem ExtD.lst {d la : Addr} {G G' : Gp} (x : ExtD d la G G') {a : Addr} {l : List D} (n1 : a ≠ d) (n2 : a ≠ la) (h : lstAt G a = some l) : lstAt G' a = some l := by
  unfold lstAt at h ⊢
  cases e : G a with
  | none => rw [e] at h; cases h
  | some o => rw [e] at h; rw [x.old a o n1 n2 e]; exact h
theorem ExtD.fresh {d la : Addr} {G G' : Gp} (x : ExtD d la G G') (dk : Deck G' d la) {p : Addr} (h : G' p = none) : G p = none := by
  obtain ⟨n1, n2⟩ := dk.far h
  cases e : G p with
  | none => rfl
  | some o => rw [x.old p o n1 n2 e] at h; cases h
/-! ### drawn boxes -/
def names1 : Col := ["a", "b", "c"]
def names2 : Col := ["box", "k2", "z0000009"]
def Named (k : Str) : Prop := k ∈ names1 ∨ k ∈ names2
def spBoxes : SpD := fun ds G Q => ∃ (d la : Addr) (most many : Nat), ds = [.ref d, natD most, natD many] ∧ most ≤ 1000 ∧ 0 < many ∧ many ≤ 1000 ∧ Deck G d la ∧ ∀ G' p (bs : Col), bs.length = most → (∀ k ∈ bs, Named k) → Deck G' d la → ExtD d la G G' → G p = none → G' p = some (.lst (bs.map D.str)) → Q (.ref p) G'
theorem k__law_boxes (ds : List D) (G : Gp) (Q : DK) (h : spBoxes ds G Q) : r__law_boxes spDraw spPick { nx := fun _ G' => Q .non G', rt := Q } (startD ["deck", "most", "many", "names", "turn"] ds) G := by
  obtain ⟨d, la, most, many, rfl, hm, hy0, hy, dk, q⟩ := h
  unfold r__law_boxes
  walk_at "rd"
  refine ⟨d, la, 3, rfl, by decide, by decide, dk, fun G1 v v0 v1 dk1 x1 => gt_i ⟨_, rfl, ?_⟩⟩
  have main : ∀ (ns : Col) (hns : ns = names1 ∨ ns = names2) (G2 : Gp) (p : Addr), G1 p = none → G2 = up G1 p (.lst (ns.map D.str)) →
      ∃ j : Int, [natD most] = [.int j] ∧ -(2 ^ 62) ≤ j ∧ j.toNat ≤ sizeLine ∧ mapD (fun _ => True) (turnD (dgName 4) dYes (dCall spPick (dCons (dVar 0) (dCons (dSl (dVar 3) doNone (doSome (dBin oAdd (dC (.int 1)) (dCall spDraw (dCons (dVar 0) (dCons (dVar 2) dNil)))))) dNil))) [some (.ref d), some (natD most), some (natD many), some (.ref p), none]) (rgD 0 j.toNat) [] G2 fun l G3 => ∀ p, G3 p = none → Q (.ref p) (up G3 p (.lst l)) := fun ns hns G2 p hp hG => by
    refine ⟨most, rfl, by omega, by rw [Int.toNat_natCast]; exact sz_of (by omega), ?_⟩
    rw [Int.toNat_natCast]
    have dk2 : Deck G2 d la := by rw [hG]; exact dk1.ext (Ext.up hp)
    have x2 : ExtD d la G G2 := by rw [hG]; exact x1.trans (Ext.up hp).d
    obtain ⟨pd, pl⟩ := dk1.far hp
    have p2 : G2 p = some (.lst (ns.map D.str)) := by rw [hG, up_same]
    have named : ∀ k ∈ ns, Named k := fun k hk => by rcases hns with rfl | rfl; exact .inl hk; exact .inr hk
    have hne : ns ≠ [] := by rcases hns with rfl | rfl <;> (intro z; cases z)
    have hl3 : ns.length = 3 := by rcases hns with rfl | rfl <;> rfl
    refine mapD_rel (f := fun i : Nat => D.int (0 + (i : Nat))) (l := List.range most) (fun pre acc G4 => ∃ bs : Col, acc = bs.map D.str ∧ bs.length = pre.length ∧ (∀ k ∈ bs, Named k) ∧ Deck G4 d la ∧ ExtD d la G2 G4) ⟨[], rfl, rfl, (fun k hk => by cases hk), dk2, ExtD.refl _ _ _⟩ (fun _ _ _ _ => trivial) (fun pre x post acc G4 K hl ⟨bs, h1, h2, h3, h4, h5⟩ hK => ?_) fun acc G4 ⟨bs, h1, h2, h3, h4, h5⟩ p5 hp5 => ?_
    · walk_at "rd"
      refine ⟨d, la, many, rfl, by omega, by omega, h4, fun G5 v v0 v1 dk5 x5 => add_i ⟨((1 + v.toNat : Nat) : Int), by congr 1; omega, ?_⟩⟩
      have lp := (h5.trans x5).lst pd pl (lstAt_lst p2)
      refine .lst lp fun s hs => ?_
      rw [cut_head, ← List.map_take]
      obtain ⟨sd, sl⟩ := dk5.far hs
      refine ⟨d, la, .ref s, _, rfl, .inr ⟨s, rfl, sd, sl, lst_up⟩, ?_, by rw [List.length_map]; have := List.length_take_le (1 + v.toNat) ns; omega, dk5.ext (Ext.up hs), fun G6 y hy dk6 x6 => ?_⟩
      · intro z
        have := congrArg List.length z
        rw [List.length_map, List.length_take, List.length_nil] at this
        omega
      · obtain ⟨k, hk, rfl⟩ := List.mem_map.mp hy
        refine hK _ _ ⟨bs ++ [k], by rw [h1, List.map_append]; rfl, by rw [List.length_append, List.length_append, h2]; rfl, fun j hj => ?_, dk6, h5.trans (x5.trans ((Ext.up hs).d.trans x6))⟩
        rcases List.mem_append.mp hj with hj | hj
        · exact h3 j hj
        · rw [List.mem_singleton.mp hj]; exact named k (List.mem_of_mem_take hk)
    · have xg := x2.trans h5
      exact q _ p5 bs (by rw [h2, List.length_range]) h3 (h4.ext (Ext.up hp5)) (xg.trans (Ext.up hp5).d) (xg.fresh h4 hp5) (by rw [up_same, h1])
  split
  · refine ⟨sz_of (by decide), fun p hp => ?_⟩
    exact main names1 (.inl rfl) _ p hp rfl
  · refine ⟨sz_of (by decide), fun p hp => ?_⟩
    exact main names2 (.inr rfl) _ p hp rfl
/-! ### boxes in columns -/
abbrev AC := Addr × Col
def refC (p : AC) : D := .ref p.1
def spInCols : SpD := fun ds G Q => ∃ (d la b : Addr) (bs : Col) (many : Nat), ds = [.ref d, .ref b, natD many] ∧ b ≠ d ∧ b ≠ la ∧ lstAt G b = some (bs.map D.str) ∧ bs.length ≤ 1000 ∧ 0 < many ∧ many ≤ 1000 ∧ Deck G d la ∧ ∀ G' y, IsYd bs many y → Deck G' d la → ExtD d la G G' → Q (enc y) G'
theorem popAt {G : Gp} {Q : DK} {a : Addr} {l : List D} {j : Nat} {y : D} (h : G a = some (.lst l)) (hj : l[j]? = some y) (q : Q y (up G a (.lst (l.eraseIdx j)))) (hl : l.length < 16000000) : oPopAt (.ref a) [.int (j : Nat)] G Q := by
  have hlt : j < l.length := (List.getElem?_eq_some_iff.mp hj).1
  refine ⟨a, l, j, j, y, rfl, rfl, h, by omega, by omega, ?_, hj, q⟩
  have : ixN l.length (j : Int) = some j := by unfold ixN; rw [if_pos (by omega), if_pos (by omega)]; simp
  exact (ixN_seq this).1
theorem erase_perm {β : Type} : ∀ {l : List β} {j : Nat} {x : β}, l[j]? = some x → l.Perm (x :: l.eraseIdx j)
  | [], _, _, h => by simp at h
  | a :: l, 0, x, h => by simp at h; subst h; exact List.Perm.refl _
  | a :: l, j + 1, x, h => by
    rw [List.eraseIdx_cons_succ]
    exact ((erase_perm (l := l) (by simpa using h)).cons a).trans (List.Perm.swap _ _ _)
/-- columns that are filled -/
structure Cols (G : Gp) (c lf d la : Addr) (cs : List AC) : Prop where
  list : G c = some (.lst (cs.map refC))
  val : ∀ p ∈ cs, G p.1 = some (.lst (p.2.map D.str))
  far : ∀ p ∈ cs, p.1 ≠ c ∧ p.1 ≠ lf ∧ p.1 ≠ d ∧ p.1 ≠ la
  adr : (cs.map (·.1)).Nodup
theorem Cols.more {G G' : Gp} {c lf d la : Addr} {cs : List AC} (h : Cols G c lf d la cs) (hc : c ≠ lf ∧ c ≠ d ∧ c ≠ la) (x : ∀ a o, a ≠ lf → a ≠ d → a ≠ la → G a = some o → G' a = some o) : Cols G' c lf d la cs :=
  ⟨x _ _ hc.1 hc.2.1 hc.2.2 h.list, fun p hp => x _ _ (h.far p hp).2.1 (h.far p hp).2.2.1 (h.far p hp).2.2.2 (h.val p hp), h.far, h.adr⟩
def addC (a : Addr) (k : Str) (cs : List AC) : List AC := cs.map fun p => if p.1 = a then (p.1, p.2 ++ [k]) else p
theorem addC_fst (a : Addr) (k : Str) (cs : List AC) : (addC a k cs).map (·.1) = cs.map (·.1) := by
  unfold addC
  rw [List.map_map]
  apply List.map_congr_left
  intro p _
  simp only [Function.comp]
  split <;> rfl
theorem addC_none {a : Addr} {k : Str} : ∀ {cs : List AC}, a ∉ cs.map (·.1) → addC a k cs = cs := fun {cs} h => by
  have : addC a k cs = cs.map id := List.map_congr_left fun p hp => if_neg fun z => h (by rw [← z]; exact List.mem_map_of_mem hp)
  rw [this, List.map_id]
theorem addC_flat {a : Addr} {k : Str} : ∀ {cs : List AC}, (cs.map (·.1)).Nodup → a ∈ cs.map (·.1) → ((addC a k cs).map (·.2)).flatten.Perm (k :: (cs.map (·.2)).flatten)
  | [], _, h => by cases h
  | p :: cs, hn, h => by
    rw [List.map_cons, List.nodup_cons] at hn
    by_cases e : p.1 = a
    · have : addC a k cs = cs := addC_none (by rw [← e]; exact hn.1)
      show (((if p.1 = a then (p.1, p.2 ++ [k]) else p) :: addC a k cs).map (·.2)).flatten.Perm _
      rw [if_pos e, this, List.map_cons, List.map_cons, List.flatten_cons, List.flatten_cons]
      show ((p.2 ++ [k]) ++ _).Perm _
      rw [List.append_assoc]
      exact List.perm_middle
    · show (((if p.1 = a then (p.1, p.2 ++ [k]) else p) :: addC a k cs).map (·.2)).flatten.Perm _
      rw [if_neg e, List.map_cons, List.map_cons, List.flatten_cons, List.flatten_cons]
      have := addC_flat (k := k) hn.2 (by rcases List.mem_cons.mp h with z | z; exact absurd z.symm e; exact z)
      exact (this.append_left p.2).trans List.perm_middle
theorem Cols.add {G : Gp} {c lf d la : Addr} {cs : List AC} {p : AC} {k : Str} (h : Cols G c lf d la cs) (hp : p ∈ cs) : Cols (up G p.1 (.lst (p.2.map D.str ++ [.str k]))) c lf d la (addC p.1 k cs) := by
  have e := addC_fst p.1 k cs
  refine ⟨?_, fun r hr => ?_, fun r hr => ?_, by rw [e]; exact h.adr⟩
  · rw [up_ne (Ne.symm (h.far p hp).1), h.list]
    have := congrArg (List.map D.ref) e
    rw [List.map_map, List.map_map] at this
    exact congrArg (fun l => some (DO.lst l)) this.symm
  · obtain ⟨r0, hr0, rfl⟩ := List.mem_map.mp hr
    by_cases z : r0.1 = p.1
    · have : r0 = p := nodup_inj h.adr r0 hr0 p hp z
      subst this
      rw [if_pos rfl]
      show up G r0.1 _ r0.1 = _
      rw [up_same, List.map_append]; rfl
    · rw [if_neg z, up_ne z]; exact h.val r0 hr0
  · obtain ⟨r0, hr0, rfl⟩ := List.mem_map.mp hr
    split
    · exact h.far r0 hr0
    · exact h.far r0 hr0
end W81
end
section
set_option Elab.async false
set_option linter.all false
set_option maxRecDepth 100000
set_option maxHeartbeats 4000000
namespace W81
open PySem PySem.Spec PyProof.Rows L2 DL
local macro_rules | `(tactic| walk_at "rd") => `(tactic| simp only [dSeq, dIfS, dOrT, dAndT, dNotT, dTest, dRet, dRetN, dAndV, dOrV, dNotV, dB, dCons, dNil, dC, dVar_iff, dBin, dChain, dAsg, dgName, dgTup, dgCons, dgNil, dCall, dTup, dLst, dNeg, dIf, dDrop, dNext, dYes, turnD, wipeD, dLc, diSeq, dSl, doSome, doNone, dM, dM0, dFor, dOr, dgSub, dIsN, dNotN, dEnum, dRange1, dRange2, dZip, dListZip, dAug, dPar, dRev, dRevL, dSlK, dZipY, dKeysN, dValsN, dItemsN, dLockE, dLockS, dSetdef, dDNewN, dDNew, dDispN, dDisp, dCallX, dDropX, dRetX, dAsgX, dRaise, dCallL, dCallR, dCallXR, dLc2, turn2, startD, List.map_cons, List.map_nil, List.cons_append, List.nil_append, List.length_cons, List.length_nil, Nat.reduceAdd, Nat.reduceSub, Nat.zero_add, List.reduceReplicate, List.replicate_succ, List.replicate_zero, List.getElem?_cons_zero, List.getElem?_cons_succ, List.set_cons_zero, List.set_cons_succ, if_true])
theorem map_erI {β γ : Type} (f : β → γ) : ∀ (l : List β) (j : Nat), (l.map f).eraseIdx j = (l.eraseIdx j).map f
  | [], _ => rfl
  | _ :: _, 0 => rfl
  | a :: l, j + 1 => by rw [List.map_cons, List.eraseIdx_cons_succ, List.eraseIdx_cons_succ, map_erI f l j, List.map_cons]
theorem k__law_in_columns (ds : List D) (G : Gp) (Q : DK) (h : spInCols ds G Q) : r__law_in_columns spPick spDraw { nx := fun _ G' => Q .non G', rt := Q } (startD ["deck", "boxes", "many", "left", "columns", "it", "column"] ds) G := by
  obtain ⟨d, la, b, bs, many, rfl, bd, bl, hb, hn, m0, m1, dk, q⟩ := h
  unfold r__law_in_columns
  walk_at "rd"
  refine list_l hb fun lf hlf => ?_
  obtain ⟨G1, hG1⟩ : ∃ g, g = up G lf (.lst (bs.map D.str)) := ⟨_, rfl⟩
  rw [← hG1]
  have e1 : Ext G G1 := by rw [hG1]; exact Ext.up hlf
  have lf1 : G1 lf = some (.lst (bs.map D.str)) := by rw [hG1, up_same]
  obtain ⟨lfd, lfl⟩ := dk.far hlf
  have dk1 := dk.ext e1
  refine ⟨many, rfl, by omega, by rw [Int.toNat_natCast]; exact sz_of (by omega), ?_⟩
  rw [Int.toNat_natCast]
  refine mapD_rel (f := fun i : Nat => D.int (0 + (i : Nat))) (l := List.range many) (fun pre acc G2 => ∃ cs : List AC, acc = cs.map refC ∧ cs.length = pre.length ∧ Ext G1 G2 ∧ (∀ p ∈ cs, p.2 = [] ∧ G2 p.1 = some (.lst []) ∧ p.1 ≠ lf ∧ p.1 ≠ d ∧ p.1 ≠ la ∧ G p.1 = none) ∧ (cs.map (·.1)).Nodup) ⟨[], rfl, rfl, Ext.refl _, (fun p hp => by cases hp), List.nodup_nil⟩ (fun _ _ _ _ => trivial) (fun pre x post acc G2 K hl ⟨cs, h1, h2, h3, h4, h5⟩ hK => ?_) fun acc G2 ⟨cs, h1, h2, h3, h4, h5⟩ c hc => ?_
  · walk_at "rd"
    refine ⟨Nat.zero_le _, fun s hs => ?_⟩
    obtain ⟨sd, sl⟩ := (dk1.ext h3).far hs
    have slf : s ≠ lf := fun z => by rw [z, h3 _ _ lf1] at hs; cases hs
    refine hK _ _ ⟨cs ++ [(s, [])], by rw [h1, List.map_append]; rfl, by rw [List.length_append, List.length_append, h2]; rfl, h3.trans (Ext.up hs), fun p hp => ?_, ?_⟩
    · rcases List.mem_append.mp hp with hp | hp
      · obtain ⟨a1, a2, a3⟩ := h4 p hp
        exact ⟨a1, up_get a2 hs, a3⟩
      · rw [List.mem_singleton.mp hp]
        exact ⟨rfl, up_same, slf, sd, sl, (e1.trans h3).fresh hs⟩
    · rw [List.map_append]
      refine List.nodup_append.mpr ⟨h5, by simp, fun x hx y hy z => ?_⟩
      obtain ⟨p, hp, e⟩ := List.mem_map.mp hx
      have hy' : y = s := by simpa using hy
      have := (h4 p hp).2.1
      rw [e, z, hy', hs] at this
      cases this
  · obtain ⟨cd, cl⟩ := (dk1.ext h3).far hc
    have clf : c ≠ lf := fun z => by rw [z, h3 _ _ lf1] at hc; cases hc
    refine ⟨_, _, rfl, ?_⟩
    rw [List.length_range] at h2
    have gc : G c = none := (e1.trans h3).fresh hc
    have e2 : Ext G (up G2 c (.lst acc)) := (e1.trans h3).put gc
    have flat0 : (cs.map (·.2)).flatten = [] := by
      have : ∀ l : List AC, (∀ p ∈ l, p.2 = []) → (l.map (·.2)).flatten = [] := fun l => by
        induction l with
        | nil => intro _; rfl
        | cons p l ih => intro h; rw [List.map_cons, List.flatten_cons, h p List.mem_cons_self, ih fun q hq => h q (List.mem_cons_of_mem _ hq)]; rfl
      exact this cs fun p hp => (h4 p hp).1
    refine dWhile_ind (fun m env G3 => ∃ (lft : Col) (cs : List AC) (o5 o6 : Option D), env = [some (.ref d), some (.ref b), some (natD many), some (.ref lf), some (.ref c), o5, o6] ∧ m = lft.length ∧ G3 lf = some (.lst (lft.map D.str)) ∧ Cols G3 c lf d la cs ∧ (lft ++ (cs.map (·.2)).flatten).Perm bs ∧ cs.length = many ∧ Deck G3 d la ∧ ExtD d la G G3 ∧ ∀ p ∈ cs, G p.1 = none)
      bs.length ⟨bs, cs, _, _, rfl, rfl, up_get (h3 _ _ lf1) hc, ⟨by rw [up_same, h1], fun p hp => ?_, fun p hp => ?_, h5⟩, by rw [flat0, List.append_nil], h2, (dk.ext e2), e2.d, fun p hp => (h4 p hp).2.2.2.2.2⟩ fun m env G3 K ⟨lft, cs, o5, o6, he, hm, g1, g2, g3, g4, g5, g6, g7⟩ hK => ?_
    · obtain ⟨a1, a2, _⟩ := h4 p hp
      rw [a1]
      exact up_get a2 hc
    · obtain ⟨_, a2, a3, a4, a5, _⟩ := h4 p hp
      exact ⟨(fun z => by rw [z, hc] at a2; cases a2), a3, a4, a5⟩
    · subst he
      have lb := g3.length_eq
      rw [List.length_append] at lb
      walk_at "rd"
      refine ⟨Nat.zero_le _, fun w hw => ne_nil (lstAt_lst (up_get g1 hw)) lst_up ⟨_, rfl, ?_⟩⟩
      have e4 : Ext G3 (up G3 w (.lst [])) := Ext.up hw
      obtain ⟨G4, hG4⟩ : ∃ g, g = up G3 w (.lst []) := ⟨_, rfl⟩
      rw [← hG4] at e4 ⊢
      have cols4 : Cols G4 c lf d la cs := g2.more ⟨clf, cd, cl⟩ fun a o _ _ _ h => e4 a o h
      have lf4 := e4 _ _ g1
      have dk4 := g5.ext e4
      have x4 := g6.trans e4.d
      cases hlft : lft with
      | nil =>
        rw [List.map_nil, List.isEmpty_nil, if_neg (by decide)]
        rw [hlft, List.nil_append] at g3
        refine ⟨_, _, .lst (lstAt_lst cols4.list), mapD_map (fun p : AC => if p.2 = [] then none else some p.2) (enc (α := Col)) (fun G' e => e.lst (lstAt_lst cols4.list)) (fun p hp G5 R e5 hR => ?_) fun G5 e5 p5 hp5 => ?_⟩
        · walk_at "rd"
          have pv := e5 _ _ (cols4.val p hp)
          refine ⟨Nat.zero_le _, fun w2 hw2 => ne_nil (lstAt_lst (up_get pv hw2)) lst_up ⟨_, rfl, ?_⟩⟩
          have hR' := hR _ (Ext.up (o := .lst []) hw2)
          rw [List.isEmpty_map]
          by_cases hz : p.2 = []
          · rw [if_pos hz] at hR'
            rw [hz, List.isEmpty_nil, if_neg (by decide)]
            exact hR'
          · rw [if_neg hz] at hR'
            have : p.2.isEmpty = false := by simpa using hz
            rw [this, if_pos (by decide)]
            exact tup_l (lstAt_lst (up_get pv hw2)) hR'
        · have e6 : ExtD d la G (up G5 p5 (.lst ((cs.filterMap fun p : AC => if p.2 = [] then none else some p.2).map enc))) := (x4.trans e5.d).trans (Ext.up hp5).d
          have dk6 : Deck (up G5 p5 (.lst ((cs.filterMap fun p : AC => if p.2 = [] then none else some p.2).map enc))) d la := (dk4.ext e5).ext (Ext.up hp5)
          have nes : ∀ x ∈ cs.filterMap fun p : AC => if p.2 = [] then none else some p.2, x ≠ [] := fun x hx => by
            obtain ⟨p, _, hp⟩ := List.mem_filterMap.mp hx
            split at hp
            · cases hp
            · cases hp; assumption
          have flat : ∀ l : List AC, (l.filterMap fun p : AC => if p.2 = [] then none else some p.2).flatten = (l.map (·.2)).flatten := fun l => by
            induction l with
            | nil => rfl
            | cons p l ih =>
              rw [List.filterMap_cons, List.map_cons, List.flatten_cons]
              by_cases hz : p.2 = []
              · simp only [hz, if_true]; rw [ih]; rfl
              · simp only [hz, if_false]; rw [List.flatten_cons, ih]
          refine sorted_l lst_up (srt1_lists nes) fun p6 hp6 => tup_l lst_up ?_
          refine q _ _ ⟨srt_pw _, fun x hx => nes x (mem_srt.mp hx), ?_, ?_⟩ (dk6.ext (Ext.up hp6)) (e6.trans (Ext.up hp6).d)
          · refine ((srt_perm _).flatten).trans ?_
            rw [flat]
            exact g3
          · rw [srt_len]
            exact Nat.le_trans (List.length_filterMap_le _ _) (Nat.le_of_eq g4)
      | cons k0 lr =>
        rw [List.map_cons, List.isEmpty_cons, if_pos (by decide)]
        have hpos : 0 < lft.length := by rw [hlft]; simp
        rw [← hlft] at *
        refine ⟨some_lst (lstAt_lst lf4), len_l (lstAt_lst lf4) ?_⟩
        rw [List.length_map]
        refine ⟨d, la, _, rfl, by omega, by omega, dk4, fun G5 v v0 v1 dk5 x5 => ?_⟩
        obtain ⟨j, rfl⟩ : ∃ j : Nat, v = j := ⟨v.toNat, by omega⟩
        have hj : j < lft.length := by omega
        have lf5 := x5 _ _ lfd lfl lf4
        have cols5 : Cols G5 c lf d la cs := cols4.more ⟨clf, cd, cl⟩ fun a o _ n1 n2 h => x5 a o n1 n2 h
        refine popAt (y := .str lft[j]) lf5 (by rw [List.getElem?_map, List.getElem?_eq_getElem hj]; rfl) ?_ (by rw [List.length_map]; omega)
        obtain ⟨G6, hG6⟩ : ∃ g, g = up G5 lf (.lst ((lft.map D.str).eraseIdx j)) := ⟨_, rfl⟩
        rw [← hG6]
        have me : (lft.map D.str).eraseIdx j = (lft.eraseIdx j).map D.str := map_erI _ _ _
        have lf6 : G6 lf = some (.lst ((lft.eraseIdx j).map D.str)) := by rw [hG6, up_same, me]
        have cols6 : Cols G6 c lf d la cs := cols5.more ⟨clf, cd, cl⟩ fun a o n0 _ _ h => by rw [hG6, up_ne n0]; exact h
        have dk6 : Deck G6 d la := by
          obtain ⟨m, r, cells, k1, k2, k3⟩ := dk5
          exact ⟨m, r, cells, by rw [hG6, up_ne (Ne.symm lfd)]; exact k1, by rw [hG6, up_ne (Ne.symm lfl)]; exact k2, k3⟩
        have glf : G lf = none := hlf
        have x6 : ExtD d la G G6 := by rw [hG6]; exact (x4.trans x5).putn glf
        have pj : lft.Perm (lft[j] :: lft.eraseIdx j) := erase_perm (List.getElem?_eq_getElem hj)
        refine ⟨d, la, .ref c, cs.map refC, rfl, .inr ⟨c, rfl, cd, cl, lstAt_lst cols6.list⟩, ?_, by rw [List.length_map]; omega, dk6, fun G7 v hv dk7 x7 => ?_⟩
        · intro z
          have := congrArg List.length z
          rw [List.length_map, List.length_nil] at this
          omega
        · obtain ⟨p, hp, rfl⟩ := List.mem_map.mp hv
          have cols7 : Cols G7 c lf d la cs := cols6.more ⟨clf, cd, cl⟩ fun a o _ n1 n2 h => x7 a o n1 n2 h
          have pv := cols7.val p hp
          obtain ⟨f1, f2, f3, f4⟩ := cols7.far p hp
          have gp : G p.1 = none := g7 p hp
          have pl : p.2.length ≤ 1000 := by
            have := mem_len (y := cs.map (·.2)) (List.mem_map_of_mem (f := fun p : AC => p.2) hp)
            omega
          refine ⟨some_lst (lstAt_lst pv), app_m pv (by rw [List.length_map]; omega) ?_⟩
          refine hK (lft.eraseIdx j).length _ _ (by rw [List.length_eraseIdx_of_lt hj, hm]; omega) ⟨lft.eraseIdx j, addC p.1 lft[j] cs, _, _, rfl, rfl, ?_, cols7.add hp, ?_, by unfold addC; rw [List.length_map]; exact g4, ?_, ?_, fun r hr => ?_⟩
          · rw [up_ne (Ne.symm f2)]; exact x7 _ _ lfd lfl lf6
          · refine List.Perm.trans ?_ g3
            refine ((addC_flat cols7.adr (List.mem_map_of_mem hp)).append_left _).trans ?_
            refine List.perm_middle.trans ?_
            exact (pj.symm.append_right _)
          · obtain ⟨m, r, cells, k1, k2, k3⟩ := dk7
            exact ⟨m, r, cells, by rw [up_ne (Ne.symm f3)]; exact k1, by rw [up_ne (Ne.symm f4)]; exact k2, k3⟩
          · exact (x6.trans x7).putn gp
          · have : r.1 ∈ (addC p.1 lft[j] cs).map (·.1) := List.mem_map_of_mem hr
            rw [addC_fst] at this
            obtain ⟨r0, hr0, e⟩ := List.mem_map.mp this
            rw [← e]
            exact g7 r0 hr0
end W81
end
section
set_option Elab.async false
set_option linter.all false
set_option maxRecDepth 100000
set_option maxHeartbeats 4000000
namespace W81
open PySem PySem.Spec PyProof.Rows L2 DL
local macro_rules | `(tactic| walk_at "rd") => `(tactic| simp only [dSeq, dIfS, dOrT, dAndT, dNotT, dTest, dRet, dRetN, dAndV, dOrV, dNotV, dB, dCons, dNil, dC, dVar_iff, dBin, dChain, dAsg, dgName, dgTup, dgCons, dgNil, dCall, dTup, dLst, dNeg, dIf, dDrop, dNext, dYes, turnD, wipeD, dLc, diSeq, dSl, doSome, doNone, dM, dM0, dFor, dOr, dgSub, dIsN, dNotN, dEnum, dRange1, dRange2, dZip, dListZip, dAug, dPar, dRev, dRevL, dSlK, dZipY, dKeysN, dValsN, dItemsN, dLockE, dLockS, dSetdef, dDNewN, dDNew, dDispN, dDisp, dCallX, dDropX, dRetX, dAsgX, dRaise, dCallL, dCallR, dCallXR, dLc2, turn2, startD, List.map_cons, List.map_nil, List.cons_append, List.nil_append, List.length_cons, List.length_nil, Nat.reduceAdd, Nat.reduceSub, Nat.zero_add, List.reduceReplicate, List.replicate_succ, List.replicate_zero, List.getElem?_cons_zero, List.getElem?_cons_succ, List.set_cons_zero, List.set_cons_succ, if_true])
/-! ### told and due alike, part by part -/
mutual
/-- alike, with so many parts -/
inductive SameN (G : Gp) : Nat → D → D → Prop where
  | non : SameN G 1 .non .non
  | bl {b : Bool} : SameN G 1 (.bl b) (.bl b)
  | int {i : Int} : SameN G 1 (.int i) (.int i)
  | str {z : Str} : SameN G 1 (.str z) (.str z)
  | tup {n : Nat} {l m : List D} (h : SamesN G n l m) : SameN G (n + 1) (.tup l) (.tup m)
  | lst {n : Nat} {a b : Addr} {l m : List D} (ha : lstAt G a = some l) (hb : lstAt G b = some m) (h : SamesN G n l m) : SameN G (n + 1) (.ref a) (.ref b)
inductive SamesN (G : Gp) : Nat → List D → List D → Prop where
  | nil : SamesN G 0 [] []
  | cons {i j : Nat} {x y : D} {l m : List D} (h : SameN G i x y) (t : SamesN G j l m) : SamesN G (i + j) (x :: l) (y :: m)
end
mutual
theorem SameN.ext {G G' : Gp} (x : Ext G G') : ∀ {n : Nat} {a b : D}, SameN G n a b → SameN G' n a b
  | _, _, _, .non => .non
  | _, _, _, .bl => .bl
  | _, _, _, .int => .int
  | _, _, _, .str => .str
  | _, _, _, .tup h => .tup (SamesN.ext x h)
  | _, _, _, .lst ha hb h => .lst (x.lst ha) (x.lst hb) (SamesN.ext x h)
theorem SamesN.ext {G G' : Gp} (x : Ext G G') : ∀ {n : Nat} {a b : List D}, SamesN G n a b → SamesN G' n a b
  | _, _, _, .nil => .nil
  | _, _, _, .cons h t => .cons (SameN.ext x h) (SamesN.ext x t)
end
theorem SameN.pos {G : Gp} {n : Nat} {a b : D} (h : SameN G n a b) : 1 ≤ n := by cases h <;> omega
theorem SamesN.len {G : Gp} {n : Nat} {l m : List D} : SamesN G n l m → l.length = m.length := fun h => by
  induction l generalizing n m with
  | nil => cases h; rfl
  | cons x l ih => cases h with | cons _ t => rw [List.length_cons, List.length_cons, ih t]
/-- a pair with the number of its parts -/
abbrev NP := Nat × D × D
def pairD (t : NP) : D := .tup [t.2.1, t.2.2]
theorem SamesN.zip {G : Gp} : ∀ {l m : List D} {n : Nat}, SamesN G n l m → ∃ ts : List NP, zipD l m = ts.map pairD ∧ (ts.map (·.1)).sum = n ∧ ∀ t ∈ ts, SameN G t.1 t.2.1 t.2.2
  | [], _, _, h => by cases h; exact ⟨[], rfl, rfl, fun t ht => by cases ht⟩
  | x :: l, _, _, h => by
    cases h with
    | @cons i j _ y _ m h t =>
      obtain ⟨ts, h1, h2, h3⟩ := SamesN.zip t
      refine ⟨(i, x, y) :: ts, ?_, by rw [List.map_cons, List.sum_cons, h2], fun t ht => ?_⟩
      · unfold zipD at h1 ⊢
        rw [List.zipWith_cons_cons, h1, List.map_cons]; rfl
      · rcases List.mem_cons.mp ht with rfl | ht
        · exact h
        · exact h3 t ht
theorem sum_len {ts : List NP} {G : Gp} (h : ∀ t ∈ ts, SameN G t.1 t.2.1 t.2.2) : ts.length ≤ (ts.map (·.1)).sum := by
  induction ts with
  | nil => exact Nat.le_refl _
  | cons t ts ih =>
    have h1 := (h t List.mem_cons_self).pos
    have h2 := ih fun u hu => h u (List.mem_cons_of_mem _ hu)
    rw [List.length_cons, List.map_cons, List.sum_cons]
    omega
def spSame : SpD := fun ds G Q => ∃ (x y : D) (n : Nat), ds = [x, y] ∧ n ≤ 15000000 ∧ SameN G n x y ∧ ∀ G', Ext G G' → Q (.bl true) G'
theorem k__law_same (ds : List D) (G : Gp) (Q : DK) (h : spSame ds G Q) : r__law_same { nx := fun _ G' => Q .non G', rt := Q } (startD ["told", "due", "waiting", "one", "other"] ds) G := by
  obtain ⟨x, y, n, rfl, hn, hs, q⟩ := h
  unfold r__law_same
  walk_at "rd"
  refine ⟨sz_of (by decide), sz_of (by decide), fun w hw => ?_⟩
  have e0 : Ext G (up G w (.lst [.tup [x, y]])) := Ext.up hw
  refine dWhile_ind (fun m env G1 => ∃ (ts : List NP) (o3 o4 : Option D), env = [some x, some y, some (.ref w), o3, o4] ∧ Ext G G1 ∧ G1 w = some (.lst (ts.map pairD)) ∧ (∀ t ∈ ts, SameN G t.1 t.2.1 t.2.2) ∧ (ts.map (·.1)).sum = m ∧ m ≤ n) n ⟨[(n, x, y)], _, _, rfl, e0, up_same, (fun t ht => by rw [List.mem_singleton.mp ht]; exact hs), by simp, Nat.le_refl _⟩
    fun m env G1 K ⟨ts, o3, o4, he, e1, h1, h2, h3, h4⟩ hK => ?_
  subst he
  walk_at "rd"
  refine ⟨Nat.zero_le _, fun v hv => ne_nil (lstAt_lst (up_get h1 hv)) lst_up ⟨_, rfl, ?_⟩⟩
  have e2 : Ext G1 (up G1 v (.lst [])) := Ext.up hv
  obtain ⟨G2, hG2⟩ : ∃ g, g = up G1 v (.lst []) := ⟨_, rfl⟩
  rw [← hG2] at e2 ⊢
  have w2 := e2 _ _ h1
  rcases List.eq_nil_or_concat ts with rfl | ⟨us, t, rfl⟩
  · rw [List.map_nil, List.isEmpty_nil, if_neg (by decide)]
    exact q G2 (e1.trans e2)
  · rw [List.concat_eq_append] at *
    rw [List.map_append, if_pos (by simp)]
    refine ⟨some_lst (lstAt_lst w2), w, us.map pairD, pairD t, rfl, rfl, by rw [w2, List.map_append]; rfl, ?_⟩
    obtain ⟨i, a, b⟩ := t
    refine ⟨_, rfl, rfl, _, _, rfl, _, _, rfl, rfl, ?_⟩
    have hab : SameN G i a b := h2 (i, a, b) (by simp)
    obtain ⟨G3, hG3⟩ : ∃ g, g = up G2 w (.lst (us.map pairD)) := ⟨_, rfl⟩
    rw [← hG3]
    have e3 : Ext G G3 := by rw [hG3]; exact (e1.trans e2).put hw
    have w3 : G3 w = some (.lst (us.map pairD)) := by rw [hG3, up_same]
    rw [List.map_append, List.sum_append] at h3
    have hi : (us.map (·.1)).sum + i = m := by simpa using h3
    have ip := hab.pos
    have hus : ∀ t ∈ us, SameN G t.1 t.2.1 t.2.2 := fun t ht => h2 t (by simp [ht])
    have go : ∀ o3 o4, K [some x, some y, some (.ref w), o3, o4] G3 := fun o3 o4 => hK _ _ _ (show (us.map (·.1)).sum < m by omega) ⟨us, _, _, rfl, e3, w3, hus, rfl, by omega⟩
    have more : ∀ (l r : List D) (k : Nat) (o3 o4 : Option D), SamesN G k l r → i = k + 1 → ∀ G4 p, Ext G3 G4 → G4 p = none → oExtend (.ref w) [.ref p] (up G4 p (.lst (zipD l r))) fun _ G5 => K [some x, some y, some (.ref w), o3, o4] G5 := fun l r k o3 o4 hk hik G4 p e4 hp => by
      obtain ⟨us2, z1, z2, z3⟩ := hk.zip
      have w4 := up_get (u := .lst (zipD l r)) (e4 _ _ w3) hp
      have l1 := sum_len hus
      have l2 := sum_len z3
      refine ext_m w4 up_same (by rw [z1, List.length_map, List.length_map]; omega) ?_
      refine hK (k + (us.map (·.1)).sum) _ _ (by omega) ⟨us ++ us2, _, _, rfl, ((e3.trans e4).put ((e3.trans e4).fresh hp)).put hw, by rw [up_same, z1, List.map_append], fun t ht => ?_, by rw [List.map_append, List.sum_append, z2]; omega, by omega⟩
      rcases List.mem_append.mp ht with ht | ht
      · exact hus t ht
      · exact z3 t ht
    clear hK h2
    cases hab with
    | non =>
      refine isi_tuple (x := .non) trivial ⟨_, rfl, ?_⟩
      rw [if_neg (by intro z; cases z)]
      refine isi_list (x := .non) trivial ⟨_, rfl, ?_⟩
      rw [if_neg (by intro z; cases z)]
      refine ⟨_, rfl, ?_⟩
      rw [if_pos (by decide)]
      refine ⟨_, rfl, ?_⟩
      rw [if_neg (by intro z; cases z)]
      refine ⟨_, rfl, ?_⟩
      rw [if_neg (by intro z; cases z)]
      exact go _ _
    | @bl v =>
      refine isi_tuple (x := .bl v) trivial ⟨_, rfl, ?_⟩
      rw [if_neg (by intro z; cases z)]
      refine isi_list (x := .bl v) trivial ⟨_, rfl, ?_⟩
      rw [if_neg (by intro z; cases z)]
      refine ⟨_, rfl, ?_⟩
      rw [if_neg (by intro z; cases z)]
      refine ⟨_, rfl, ?_⟩
      rw [if_neg (by intro z; cases z)]
      refine isi_bool (x := .bl v) trivial (isi_bool (x := .bl v) trivial (ne_bl ⟨_, rfl, ?_⟩))
      rw [if_neg (by rw [bne_self_eq_false]; decide)]
      refine isi_int (x := .bl v) trivial (isi_int (x := .bl v) trivial (ne_bl ⟨_, rfl, ?_⟩))
      rw [if_neg (by rw [bne_self_eq_false]; decide)]
      refine isi_str (x := .bl v) trivial (isi_str (x := .bl v) trivial (ne_bl ⟨_, rfl, ?_⟩))
      rw [if_neg (by rw [bne_self_eq_false]; decide)]
      refine ne_bl ⟨_, rfl, ?_⟩
      rw [if_neg (by rw [bne_self_eq_false]; decide)]
      exact go _ _
    | @int v =>
      refine isi_tuple (x := .int v) trivial ⟨_, rfl, ?_⟩
      rw [if_neg (by intro z; cases z)]
      refine isi_list (x := .int v) trivial ⟨_, rfl, ?_⟩
      rw [if_neg (by intro z; cases z)]
      refine ⟨_, rfl, ?_⟩
      rw [if_neg (by intro z; cases z)]
      refine ⟨_, rfl, ?_⟩
      rw [if_neg (by intro z; cases z)]
      refine isi_bool (x := .int v) trivial (isi_bool (x := .int v) trivial (ne_bl ⟨_, rfl, ?_⟩))
      rw [if_neg (by rw [bne_self_eq_false]; decide)]
      refine isi_int (x := .int v) trivial (isi_int (x := .int v) trivial (ne_bl ⟨_, rfl, ?_⟩))
      rw [if_neg (by rw [bne_self_eq_false]; decide)]
      refine isi_str (x := .int v) trivial (isi_str (x := .int v) trivial (ne_bl ⟨_, rfl, ?_⟩))
      rw [if_neg (by rw [bne_self_eq_false]; decide)]
      refine neE v v ⟨_, rfl, ?_⟩
      rw [if_neg (by simp)]
      exact go _ _
    | @str v =>
      refine isi_tuple (x := .str v) trivial ⟨_, rfl, ?_⟩
      rw [if_neg (by intro z; cases z)]
      refine isi_list (x := .str v) trivial ⟨_, rfl, ?_⟩
      rw [if_neg (by intro z; cases z)]
      refine ⟨_, rfl, ?_⟩
      rw [if_neg (by intro z; cases z)]
      refine ⟨_, rfl, ?_⟩
      rw [if_neg (by intro z; cases z)]
      refine isi_bool (x := .str v) trivial (isi_bool (x := .str v) trivial (ne_bl ⟨_, rfl, ?_⟩))
      rw [if_neg (by rw [bne_self_eq_false]; decide)]
      refine isi_int (x := .str v) trivial (isi_int (x := .str v) trivial (ne_bl ⟨_, rfl, ?_⟩))
      rw [if_neg (by rw [bne_self_eq_false]; decide)]
      refine isi_str (x := .str v) trivial (isi_str (x := .str v) trivial (ne_bl ⟨_, rfl, ?_⟩))
      rw [if_neg (by rw [bne_self_eq_false]; decide)]
      refine neE v v ⟨_, rfl, ?_⟩
      rw [if_neg (by simp)]
      exact go _ _
    | @tup k l r h =>
      have hl := h.len
      refine isi_tuple (x := .tup r) trivial ⟨_, rfl, ?_⟩
      rw [if_pos (by rfl)]
      refine isi_tuple (x := .tup l) trivial (isi_tuple (x := .tup r) trivial (ne_bl ⟨_, rfl, ?_⟩))
      rw [if_neg (by simp [isTupD])]
      refine isi_list (x := .tup l) trivial (isi_list (x := .tup r) trivial (ne_bl ⟨_, rfl, ?_⟩))
      rw [if_neg (by simp [isLstD])]
      refine len_t (len_t (neE (l.length : Int) (r.length : Int) ⟨_, rfl, ?_⟩))
      rw [if_neg (by simp [hl])]
      exact ⟨some_lst (lstAt_lst w3), l, r, .inr rfl, fun p hp => more l r k _ _ h rfl G3 p (Ext.refl _) hp⟩
    | @lst k a b l r ha hb h =>
      have ha := e3.lst ha
      have hb := e3.lst hb
      have hl := h.len
      have la : Lk1 G3 (.ref a) := by show (lstAt G3 a).isSome = true; rw [ha]; rfl
      have lb : Lk1 G3 (.ref b) := by show (lstAt G3 b).isSome = true; rw [hb]; rfl
      refine isi_tuple lb ⟨_, rfl, ?_⟩
      rw [if_neg (by simp [isTupD])]
      refine isi_list lb ⟨_, rfl, ?_⟩
      rw [if_pos (by rfl)]
      refine isi_tuple la (isi_tuple lb (ne_bl ⟨_, rfl, ?_⟩))
      rw [if_neg (by simp [isTupD])]
      refine isi_list la (isi_list lb (ne_bl ⟨_, rfl, ?_⟩))
      rw [if_neg (by simp [isLstD])]
      refine len_l ha (len_l hb (neE (l.length : Int) (r.length : Int) ⟨_, rfl, ?_⟩))
      rw [if_neg (by simp [hl])]
      exact ⟨some_lst (lstAt_lst w3), l, r, .inl ⟨a, b, rfl, ha, hb⟩, fun p hp => more l r k _ _ h rfl G3 p (Ext.refl _) hp⟩
end W81
end
section
set_option Elab.async false
set_option linter.all false
set_option maxRecDepth 100000
set_option maxHeartbeats 4000000
namespace W81
open PySem PySem.Spec PyProof.Rows L2 DL
local macro_rules | `(tactic| walk_at "rd") => `(tactic| simp only [dSeq, dIfS, dOrT, dAndT, dNotT, dTest, dRet, dRetN, dAndV, dOrV, dNotV, dB, dCons, dNil, dC, dVar_iff, dBin, dChain, dAsg, dgName, dgTup, dgCons, dgNil, dCall, dTup, dLst, dNeg, dIf, dDrop, dNext, dYes, turnD, wipeD, dLc, diSeq, dSl, doSome, doNone, dM, dM0, dFor, dOr, dgSub, dIsN, dNotN, dEnum, dRange1, dRange2, dZip, dListZip, dAug, dPar, dRev, dRevL, dSlK, dZipY, dKeysN, dValsN, dItemsN, dLockE, dLockS, dSetdef, dDNewN, dDNew, dDispN, dDisp, dCallX, dDropX, dRetX, dAsgX, dRaise, dCallL, dCallR, dCallXR, dLc2, turn2, startD, List.map_cons, List.map_nil, List.cons_append, List.nil_append, List.length_cons, List.length_nil, Nat.reduceAdd, Nat.reduceSub, Nat.zero_add, List.reduceReplicate, List.replicate_succ, List.replicate_zero, List.getElem?_cons_zero, List.getElem?_cons_succ, List.set_cons_zero, List.set_cons_succ, if_true])
/-! ### the law's own yards -/
def putO (w l : Col) (p : Str × Nat) : Option Wl := if p.1 ∉ l.take p.2 then some (w ++ [p.1], l.take p.2 ++ l.drop (p.2 + 1)) else none
def wordsO (w l : Col) : List Wl := l.zipIdx.filterMap (putO w l)
theorem wordsO_mem {w l : Col} {p : Wl} (h : p ∈ wordsO w l) : ∃ k, p.1 = w ++ [k] ∧ (k :: p.2).Perm l := by
  unfold wordsO at h
  obtain ⟨⟨k, i⟩, hq, he⟩ := List.mem_filterMap.mp h
  have hi := List.mem_zipIdx hq
  unfold putO at he
  split at he
  · cases he
    refine ⟨k, rfl, ?_⟩
    obtain ⟨_, h2, h3⟩ := hi
    have h2 : i < l.length := by omega
    have h3 : k = l[i] := by simpa using h3
    have e : l.take i ++ l[i] :: l.drop (i + 1) = l := by rw [← List.drop_eq_getElem_cons h2, List.take_append_drop]
    rw [← h3] at e
    conv => rhs; rw [← e]
    exact List.perm_middle.symm
  · cases he
theorem idx_take {k : Str} : ∀ (l : Col), k ∉ l.take (l.idxOf k)
  | [] => by simp
  | x :: l => by
    by_cases e : x = k
    · subst e; rw [List.idxOf_cons_self]; simp
    · rw [Yard.idx_ne e, List.take_succ_cons]
      intro h
      rcases List.mem_cons.mp h with h | h
      · exact e h.symm
      · exact idx_take l h
theorem wordsO_has {w l r : Col} {k : Str} (h : (k :: r).Perm l) : ∃ p ∈ wordsO w l, p.1 = w ++ [k] ∧ p.2.Perm r := by
  have hk : k ∈ l := h.mem_iff.mp List.mem_cons_self
  have hi := List.idxOf_lt_length_of_mem hk
  refine ⟨(w ++ [k], l.take (l.idxOf k) ++ l.drop (l.idxOf k + 1)), ?_, rfl, ?_⟩
  · unfold wordsO
    refine List.mem_filterMap.mpr ⟨(k, l.idxOf k), ?_, ?_⟩
    · rw [List.mk_mem_zipIdx_iff_getElem?]
      rw [List.getElem?_eq_getElem hi, List.getElem_idxOf]
    · unfold putO
      rw [if_pos (idx_take l)]
  · rw [← erase_idx l hk]
    have := h.erase k
    rw [List.erase_cons_head] at this
    exact this.symm
structure RowsOk (ks : Col) (t : Nat) (rows : List Wl) : Prop where
  nodup : rows.Nodup
  ok : ∀ p ∈ rows, p.1.length = t ∧ (p.1 ++ p.2).Perm ks
  all : ∀ w r, w.length = t → (w ++ r).Perm ks → ∃ p ∈ rows, p.1 = w ∧ p.2.Perm r
  size : rows.length * fct (ks.length - t) ≤ fct ks.length
theorem RowsOk.start (ks : Col) : RowsOk ks 0 [([], ks)] := ⟨by simp, (fun p hp => by rw [List.mem_singleton.mp hp]; exact ⟨rfl, List.Perm.refl _⟩), (fun w r hw hp => by
  obtain rfl := List.length_eq_zero_iff.mp hw
  exact ⟨_, List.mem_singleton.mpr rfl, rfl, hp.symm⟩), by show 1 * _ ≤ _; rw [Nat.one_mul, Nat.sub_zero]; exact Nat.le_refl _⟩
theorem RowsOk.left {ks : Col} {t : Nat} {rows : List Wl} (h : RowsOk ks t rows) {p : Wl} (hp : p ∈ rows) : p.2.length = ks.length - t := by
  obtain ⟨h1, h2⟩ := h.ok p hp
  have := h2.length_eq
  rw [List.length_append] at this
  omega
theorem RowsOk.small {ks : Col} {t : Nat} {rows : List Wl} (h : RowsOk ks t rows) (hn : ks.length ≤ 6) : rows.length ≤ 720 := by
  have h1 := h.size
  have h2 : fct ks.length ≤ fct 6 := fct_mono hn
  have h3 : fct 6 = 720 := by decide
  have h4 := fct_pos (ks.length - t)
  have h5 : rows.length * 1 ≤ rows.length * fct (ks.length - t) := Nat.mul_le_mul_left _ h4
  omega
theorem RowsOk.next {ks : Col} {t : Nat} {rows more : List Wl} (h : RowsOk ks t rows) (ht : t < ks.length) (hn : more.Nodup) (hm : ∀ q, q ∈ more ↔ ∃ p ∈ rows, q ∈ wordsO p.1 p.2) (hl : more.length ≤ rows.length * (ks.length - t)) : RowsOk ks (t + 1) more := by
  refine ⟨hn, fun q hq => ?_, fun w r hw hp => ?_, ?_⟩
  · obtain ⟨p, hp, hq⟩ := (hm q).mp hq
    obtain ⟨h1, h2⟩ := h.ok p hp
    obtain ⟨k, e1, e2⟩ := wordsO_mem hq
    refine ⟨by rw [e1]; simp [h1], ?_⟩
    rw [e1, List.append_assoc]
    exact (List.Perm.append_left p.1 e2).trans h2
  · rcases List.eq_nil_or_concat w with rfl | ⟨u, k, rfl⟩
    · cases hw
    · obtain ⟨p, h1, h2, h3⟩ := h.all u (k :: r) (by simpa using hw) (by simpa using hp)
      obtain ⟨q, g1, g2, g3⟩ := wordsO_has (w := p.1) h3.symm
      exact ⟨q, (hm q).mpr ⟨p, h1, g1⟩, by rw [g2, h2]; simp, g3⟩
  · have h2 := h.size
    have e : ks.length - t = (ks.length - (t + 1)) + 1 := by omega
    rw [e] at h2 hl
    calc more.length * fct (ks.length - (t + 1)) ≤ rows.length * (ks.length - (t + 1) + 1) * fct (ks.length - (t + 1)) := Nat.mul_le_mul_right _ hl
      _ = rows.length * fct (ks.length - (t + 1) + 1) := by rw [Nat.mul_assoc]; rfl
      _ ≤ fct ks.length := h2
/-! ### cuts by bits -/
def runC : List Col → Col → Col → Nat → List Col × Col
  | cols, here, [], _ => (cols, here)
  | cols, here, x :: xs, c => if c % 2 = 1 then runC (cols ++ [here]) [x] xs (c / 2) else runC cols (here ++ [x]) xs (c / 2)
def stepC (s : List Col × Col) (x : Str) (b : Nat) : List Col × Col := if b = 1 then (s.1 ++ [s.2], [x]) else (s.1, s.2 ++ [x])
theorem runC_snoc : ∀ (xs : Col) (x : Str) (cols : List Col) (here : Col) (c : Nat), runC cols here (xs ++ [x]) c = stepC (runC cols here xs c) x (c / 2 ^ xs.length % 2)
  | [], x, cols, here, c => by
    rw [List.nil_append, runC, runC, runC, runC, List.length_nil, Nat.pow_zero, Nat.div_one]
    unfold stepC
    rfl
  | y :: xs, x, cols, here, c => by
    rw [List.cons_append, runC, runC]
    have e : c / 2 ^ (y :: xs).length = c / 2 / 2 ^ xs.length := by
      rw [List.length_cons, Nat.pow_succ, Nat.mul_comm, Nat.div_div_eq_div_mul]
    rw [e]
    split
    · exact runC_snoc xs x _ _ _
    · exact runC_snoc xs x _ _ _
theorem runC_sound : ∀ (xs : Col) (cols : List Col) (here : Col) (c : Nat), (∀ d ∈ cols, d ≠ []) → here ≠ [] →
    ((runC cols here xs c).1 ++ [(runC cols here xs c).2]).flatten = cols.flatten ++ here ++ xs ∧ ∀ d ∈ (runC cols here xs c).1 ++ [(runC cols here xs c).2], d ≠ []
  | [], cols, here, c, h1, h2 => by
    rw [runC]
    refine ⟨by simp, fun d hd => ?_⟩
    rcases List.mem_append.mp hd with hd | hd
    · exact h1 d hd
    · rw [List.mem_singleton.mp hd]; exact h2
  | x :: xs, cols, here, c, h1, h2 => by
    rw [runC]
    split
    · obtain ⟨a, b⟩ := runC_sound xs (cols ++ [here]) [x] (c / 2) (fun d hd => by
        rcases List.mem_append.mp hd with hd | hd
        · exact h1 d hd
        · rw [List.mem_singleton.mp hd]; exact h2) (by simp)
      exact ⟨by rw [a]; simp, b⟩
    · obtain ⟨a, b⟩ := runC_sound xs cols (here ++ [x]) (c / 2) h1 (by simp)
      exact ⟨by rw [a]; simp, b⟩
theorem runC_all : ∀ (xs : Col) (here u : Col) (vs : List Col), here ≠ [] → u ++ vs.flatten = xs → (∀ d ∈ vs, d ≠ []) →
    ∃ c, c < 2 ^ xs.length ∧ ∀ cols, (runC cols here xs c).1 ++ [(runC cols here xs c).2] = cols ++ (here ++ u) :: vs
  | [], here, u, vs, h1, h2, h3 => by
    obtain ⟨hu, hv⟩ := List.append_eq_nil_iff.mp h2
    subst hu
    have : vs = [] := by
      cases vs with
      | nil => rfl
      | cons d vs =>
        rw [List.flatten_cons, List.append_eq_nil_iff] at hv
        exact absurd hv.1 (h3 d List.mem_cons_self)
    subst this
    exact ⟨0, by simp, fun cols => by rw [runC]; simp⟩
  | x :: xs, here, u, vs, h1, h2, h3 => by
    cases u with
    | cons y u =>
      injection h2 with e1 e2
      subst e1
      obtain ⟨c, hc, h⟩ := runC_all xs (here ++ [y]) u vs (by simp) e2 h3
      refine ⟨2 * c, by rw [List.length_cons, Nat.pow_succ]; omega, fun cols => ?_⟩
      rw [runC, if_neg (by omega), show 2 * c / 2 = c by omega, h cols]
      simp
    | nil =>
      cases vs with
      | nil => cases h2
      | cons d vs =>
        cases d with
        | nil => exact absurd rfl (h3 [] List.mem_cons_self)
        | cons y v =>
          rw [List.nil_append, List.flatten_cons, List.cons_append] at h2
          injection h2 with e1 e2
          subst e1
          obtain ⟨c, hc, h⟩ := runC_all xs [y] v vs (by simp) e2 fun d hd => h3 d (List.mem_cons_of_mem _ hd)
          refine ⟨2 * c + 1, by rw [List.length_cons, Nat.pow_succ]; omega, fun cols => ?_⟩
          rw [runC, if_pos (by omega), show (2 * c + 1) / 2 = c by omega, h (cols ++ [here])]
          simp
/-- the parts into which a row is cut -/
def partsC (row : Col) (c : Nat) : List Col := match row with
  | [] => []
  | x :: xs => (runC [] [x] xs c).1 ++ [(runC [] [x] xs c).2]
theorem parts_iff {ks : Col} {most : Nat} {rows : List Wl} (h : RowsOk ks ks.length rows) (hk : ks ≠ []) {y : Yrd} : (∃ p ∈ rows, ∃ c, c < 2 ^ (p.1.length - 1) ∧ (partsC p.1 c).length ≤ most ∧ y = srt (partsC p.1 c)) ↔ IsYd ks most y := by
  constructor
  · rintro ⟨p, hp, c, hc, hl, rfl⟩
    obtain ⟨h1, h2⟩ := h.ok p hp
    have l2 := h.left hp
    have e2 : p.2 = [] := List.length_eq_zero_iff.mp (by omega)
    rw [e2, List.append_nil] at h2
    cases hr : p.1 with
    | nil => rw [hr] at h2; exact absurd h2.symm.eq_nil hk
    | cons x xs =>
      obtain ⟨a, b⟩ := runC_sound xs [] [x] c (fun d hd => by cases hd) (by simp)
      rw [hr] at h2 hl
      refine ⟨srt_pw _, fun d hd => b d (mem_srt.mp hd), ((srt_perm _).flatten).trans ?_, by rw [srt_len]; exact hl⟩
      unfold partsC
      rw [a]
      exact h2
  · intro hy
    obtain ⟨p, hp, e1, e2⟩ := h.all y.flatten [] hy.kinds.length_eq (by rw [List.append_nil]; exact hy.kinds)
    refine ⟨p, hp, ?_⟩
    rw [e1]
    cases y with
    | nil => exact absurd hy.kinds.symm.eq_nil hk
    | cons d vs =>
      cases d with
      | nil => exact absurd rfl (hy.ne [] List.mem_cons_self)
      | cons x u =>
        obtain ⟨c, hc, hcut⟩ := runC_all (u ++ vs.flatten) [x] u vs (by simp) rfl fun d hd => hy.ne d (List.mem_cons_of_mem _ hd)
        have hcut := hcut []
        refine ⟨c, by rw [List.flatten_cons, List.cons_append, List.length_cons]; exact hc, ?_⟩
        have e : partsC (((x :: u) :: vs).flatten) c = (x :: u) :: vs := by
          rw [List.flatten_cons, List.cons_append]
          exact hcut
        rw [e]
        exact ⟨hy.len, (srt_self hy.pw).symm⟩
end W81
end
section
set_option Elab.async false
set_option linter.all false
set_option maxRecDepth 100000
set_option maxHeartbeats 4000000
namespace W81
open PySem PySem.Spec PyProof.Rows L2 DL
local macro_rules | `(tactic| walk_at "rd") => `(tactic| simp only [dSeq, dIfS, dOrT, dAndT, dNotT, dTest, dRet, dRetN, dAndV, dOrV, dNotV, dB, dCons, dNil, dC, dVar_iff, dBin, dChain, dAsg, dgName, dgTup, dgCons, dgNil, dCall, dTup, dLst, dNeg, dIf, dDrop, dNext, dYes, turnD, wipeD, dLc, diSeq, dSl, doSome, doNone, dM, dM0, dFor, dOr, dgSub, dIsN, dNotN, dEnum, dRange1, dRange2, dZip, dListZip, dAug, dPar, dRev, dRevL, dSlK, dZipY, dKeysN, dValsN, dItemsN, dLockE, dLockS, dSetdef, dDNewN, dDNew, dDispN, dDisp, dCallX, dDropX, dRetX, dAsgX, dRaise, dCallL, dCallR, dCallXR, dLc2, turn2, startD, List.map_cons, List.map_nil, List.cons_append, List.nil_append, List.length_cons, List.length_nil, Nat.reduceAdd, Nat.reduceSub, Nat.zero_add, List.reduceReplicate, List.replicate_succ, List.replicate_zero, List.getElem?_cons_zero, List.getElem?_cons_succ, List.set_cons_zero, List.set_cons_succ, if_true])
theorem enc_pair (w l : Col) : (enc ((w, l) : Wl)) = D.tup [enc w, enc l] := rfl
theorem k__law_all_yards (ds : List D) (G : Gp) (Q : DK) (h : spYardsOf ds G Q) : r__law_all_yards { nx := fun _ G' => Q .non G', rt := Q } (startD ["boxes", "most", "rows", "turn", "found", "longer", "row", "left", "cuts", "k", "it", "columns", "here"] ds) G := by
  obtain ⟨a, ks, most, rfl, ha, hn, hne, q⟩ := h
  unfold r__law_all_yards
  walk_at "rd"
  refine ⟨Nat.zero_le _, tup_l ha ⟨sz_of (by decide), sz_of (by decide), fun p0 hp0 => ?_⟩⟩
  have ea := Ext.up (o := .lst [.tup [.tup [], .tup (ks.map D.str)]]) hp0
  refine len_l (ea.lst ha) ⟨_, rfl, by omega, by rw [Int.toNat_natCast, List.length_map]; exact sz_of (by omega), ?_⟩
  rw [Int.toNat_natCast, List.length_map]
  unfold rgD
  refine forD_map (fun pre env G1 => (∃ p o3 o4 o5 o6 o7 o8 o9 o10 o11 o12 rows, env = [some (.ref a), some (natD most), some (.ref p), o3, o4, o5, o6, o7, o8, o9, o10, o11, o12] ∧ G p = none ∧ G1 p = some (.lst (rows.map enc)) ∧ RowsOk ks pre.length rows) ∧ Ext G G1) ⟨⟨p0, _, _, _, _, _, _, _, _, _, _, [([], ks)], rfl, hp0, up_same, RowsOk.start ks⟩, ea⟩
    (fun env G1 ⟨⟨p, o3, o4, o5, o6, o7, o8, o9, o10, o11, o12, rows, he, hp, h1, hr⟩, e1⟩ => ⟨trivial, ?_⟩) fun pre x post env G1 K hl ⟨⟨p, o3, o4, o5, o6, o7, o8, o9, o10, o11, o12, rows, he, hp, h1, hr⟩, e1⟩ hK => ⟨trivial, ?_⟩
  · subst he
    rw [List.length_range] at hr
    walk_at "rd"
    refine .inl fun f hf => ⟨_, _, .lst (lstAt_lst (up_get h1 hf)), ?_⟩
    obtain ⟨G2, hG2⟩ : ∃ g, g = up G1 f (.dn []) := ⟨_, rfl⟩
    rw [← hG2]
    have f2 : G2 f = some (.dn (DL.encM ([] : List (Yrd × D)))) := by rw [hG2, up_same]; rfl
    have gf : G f = none := e1.fresh hf
    have e2 : Ext G G2 := by rw [hG2]; exact e1.put gf
    have p2 : G2 p = some (.lst (rows.map enc)) := by rw [hG2]; exact up_get h1 hf
    have pf : p ≠ f := ne_of h1 hf
    have rsz := hr.small hn
    refine forD_map (fun pre env G3 => (∃ o6 o7 o8 o9 o10 o11 o12, env = [some (.ref a), some (natD most), some (.ref p), o3, some (.ref f), o5, o6, o7, o8, o9, o10, o11, o12]) ∧ Ext G G3 ∧ ExtE f G2 G3 ∧ ∃ m : List (Yrd × D), G3 f = some (.dn (DL.encM m)) ∧ (m.map (·.1)).Nodup ∧ m.length ≤ pre.length * 32 ∧
        ∀ y, y ∈ m.map (·.1) ↔ ∃ r ∈ pre, ∃ c, c < 2 ^ (r.1.length - 1) ∧ (partsC r.1 c).length ≤ most ∧ y = srt (partsC r.1 c))
      ⟨⟨_, _, _, _, _, _, _, rfl⟩, e2, ExtE.refl _ _, [], f2, List.nodup_nil, Nat.zero_le _, fun y => ⟨(fun h => by cases h), fun ⟨r, hr, _⟩ => by cases hr⟩⟩
      (fun env G3 ⟨⟨o6, o7, o8, o9, o10, o11, o12, he⟩, e3, x3, m, hm, hnd, hml, hmm⟩ => ⟨x3.lst pf (lstAt_lst p2), ?_⟩)
      fun pre r post env G3 K2 hl ⟨⟨o6, o7, o8, o9, o10, o11, o12, he⟩, e3, x3, m, hm, hnd, hml, hmm⟩ hK2 => ⟨x3.lst pf (lstAt_lst p2), ?_⟩
    · subst he
      have iff : ∀ y, y ∈ m.map (·.1) ↔ IsYd ks most y := fun y => (hmm y).trans (parts_iff hr hne)
      walk_at "rd"
      refine sorted_n (dnl_of hm) (srt1_lists fun y hy => isYd_ne ((iff y).mp hy) hne) fun p5 hp5 => ?_
      refine q _ p5 _ (e3.put (e3.fresh hp5)) (e3.fresh hp5) up_same ⟨srt_pw _, (srt_perm _).nodup_iff.mpr hnd, fun y => by rw [mem_srt]; exact iff y⟩ ?_
      rw [srt_len, List.length_map]
      have : rows.length * 32 ≤ 720 * 32 := Nat.mul_le_mul_right _ rsz
      omega
    · subst he
      have hrm : r ∈ rows := by rw [hl]; simp
      obtain ⟨r1, r2⟩ := hr.ok r hrm
      have rpos : 0 < ks.length := List.length_pos_iff.mpr hne
      have hpl : pre.length ≤ 719 := by
        have := congrArg List.length hl
        rw [List.length_append, List.length_cons] at this; omega
      obtain ⟨x0, xs, hrow⟩ : ∃ x0 xs, r.1 = x0 :: xs := by
        cases hz : r.1 with
        | nil => rw [hz] at r1; simp at r1; omega
        | cons x0 xs => exact ⟨x0, xs, rfl⟩
      have hxs : xs.length + 1 = ks.length := by rw [← r1, hrow]; rfl
      walk_at "rd"
      refine ⟨_, rfl, rfl, _, _, rfl, _, _, rfl, rfl, len_t (sub_i ?_)⟩
      have e5 : (((r.1.map (enc (α := Str))).length : Nat) : Int) - 1 = ((xs.length : Nat) : Int) := by rw [List.length_map, hrow, List.length_cons]; omega
      rw [e5]
      have p32 : 2 ^ xs.length ≤ 32 := Nat.pow_le_pow_right (show 0 < 2 by decide) (show xs.length ≤ 5 by omega)
      refine ⟨1, (xs.length : Int), rfl, rfl, ⟨by omega, by omega, by decide⟩, _, rfl, ?_, ?_, ?_⟩
      · have : (0 : Int) ≤ 1 * 2 ^ (xs.length : Int).toNat := by rw [Int.one_mul]; exact Int.le_of_lt (Int.pow_pos (by decide))
        omega
      · rw [Int.toNat_natCast, Int.one_mul]
        have : ((2 : Int) ^ xs.length).toNat = 2 ^ xs.length := by rw [show ((2 : Int) ^ xs.length) = ((2 ^ xs.length : Nat) : Int) by push_cast; rfl, Int.toNat_natCast]
        rw [this]
        exact sz_of (by omega)
      rw [Int.toNat_natCast, Int.one_mul]
      have etn : ((2 : Int) ^ xs.length).toNat = 2 ^ xs.length := by rw [show ((2 : Int) ^ xs.length) = ((2 ^ xs.length : Nat) : Int) by push_cast; rfl, Int.toNat_natCast]
      rw [etn]
      have rowD : (enc r.1 : D) = .tup ((x0 :: xs).map enc) := by rw [hrow]; rfl
      rw [rowD]
      refine forD_map (fun pre2 env G4 => (∃ o8 o9 o10 o11 o12, env = [some (.ref a), some (natD most), some (.ref p), o3, some (.ref f), o5, some (.tup ((x0 :: xs).map enc)), some (enc r.2), o8, o9, o10, o11, o12]) ∧ Ext G G4 ∧ ExtE f G3 G4 ∧ ∃ m2 : List (Yrd × D), G4 f = some (.dn (DL.encM m2)) ∧ (m2.map (·.1)).Nodup ∧ m2.length ≤ m.length + pre2.length ∧
          ∀ y, y ∈ m2.map (·.1) ↔ y ∈ m.map (·.1) ∨ ∃ c ∈ pre2, (partsC r.1 c).length ≤ most ∧ y = srt (partsC r.1 c))
        ⟨⟨_, _, _, _, _, rfl⟩, e3, ExtE.refl _ _, m, hm, hnd, Nat.le_refl _, fun y => ⟨.inl, fun h => h.elim id fun ⟨c, hc, _⟩ => by cases hc⟩⟩
        (fun env G4 ⟨⟨o8, o9, o10, o11, o12, he⟩, e4, x4, m2, hm2, hnd2, hml2, hmm2⟩ => ⟨trivial, ?_⟩)
        fun pre2 c post2 env G4 K3 hl2 ⟨⟨o8, o9, o10, o11, o12, he⟩, e4, x4, m2, hm2, hnd2, hml2, hmm2⟩ hK3 => ⟨trivial, ?_⟩
      · refine hK2 _ _ ⟨⟨_, _, _, _, _, _, _, he⟩, e4, x3.trans x4, m2, hm2, hnd2, ?_, fun y => ?_⟩
        · rw [List.length_range] at hml2
          rw [List.length_append, List.length_singleton, Nat.add_mul]
          omega
        · rw [hmm2, hmm]
          have rl : r.1.length - 1 = xs.length := by rw [hrow]; rfl
          constructor
          · rintro (⟨r', hr', c, hc, h⟩ | ⟨c, hc, h⟩)
            · exact ⟨r', by simp [hr'], c, hc, h⟩
            · exact ⟨r, by simp, c, by rw [rl]; exact List.mem_range.mp hc, h⟩
          · rintro ⟨r', hr', c, hc, h⟩
            rcases List.mem_append.mp hr' with hr' | hr'
            · exact .inl ⟨r', hr', c, hc, h⟩
            · rw [List.mem_singleton.mp hr'] at hc h
              exact .inr ⟨c, List.mem_range.mpr (by rw [← rl]; exact hc), h⟩
      · subst he
        have hp2l : pre2.length ≤ 31 := by
          have := congrArg List.length hl2
          rw [List.length_range, List.length_append, List.length_cons] at this; omega
        walk_at "rd"
        refine ⟨Nat.zero_le _, fun cl hcl => ?_⟩
        have e5' : Ext G4 (up G4 cl (.lst [])) := Ext.up hcl
        obtain ⟨G5, hG5⟩ : ∃ g, g = up G4 cl (.lst []) := ⟨_, rfl⟩
        rw [← hG5] at e5' ⊢
        have cl5 : G5 cl = some (.lst (([] : List Col).map enc)) := by rw [hG5, up_same]; rfl
        refine ix_t at0 ⟨sz_of (by decide), _, _, rfl, ?_⟩
        refine len_t ⟨1, _, rfl, ⟨by decide, by decide, by omega, by rw [List.length_cons, List.length_map]; omega⟩, ?_⟩
        have e6 : (((enc x0 :: xs.map (enc (α := Str))).length : Int) - 1).toNat = xs.length := by rw [List.length_cons, List.length_map]; omega
        rw [e6]
        refine ⟨sz_of (by omega), ?_⟩
        refine forD_map (fun pre3 env G6 => (∃ o9 o10, env = [some (.ref a), some (natD most), some (.ref p), o3, some (.ref f), o5, some (.tup ((x0 :: xs).map enc)), some (enc r.2), some (.int (0 + (c : Nat))), o9, o10, some (.ref cl), some (enc (runC [] [x0] (xs.take pre3.length) c).2)]) ∧ Ext G4 G6 ∧ G6 cl = some (.lst ((runC [] [x0] (xs.take pre3.length) c).1.map enc)))
          ⟨⟨_, _, rfl⟩, e5', cl5⟩ (fun env G6 ⟨⟨o9, o10, he⟩, e7, h7⟩ => ⟨trivial, ?_⟩)
          fun pre3 i post3 env G6 K4 hl3 ⟨⟨o9, o10, he⟩, e7, h7⟩ hK4 => ⟨trivial, ?_⟩
        · subst he
          rw [List.length_range, List.take_length] at h7 ⊢
          have parts : partsC r.1 c = (runC [] [x0] xs c).1 ++ [(runC [] [x0] xs c).2] := by rw [hrow]; rfl
          obtain ⟨sf, sn⟩ := runC_sound xs [] [x0] c (fun d hd => by cases hd) (by simp)
          rw [← parts] at sf sn
          have pl : (partsC r.1 c).length ≤ 6 := by
            have := yrd_len sn
            rw [sf] at this
            simp at this
            omega
          have pl1 : (partsC r.1 c).length = (runC [] [x0] xs c).1.length + 1 := by rw [parts, List.length_append]; rfl
          walk_at "rd"
          refine len_l (lstAt_lst h7) (lt_i ⟨_, rfl, ?_⟩)
          rw [List.length_map]
          by_cases hmost : (partsC r.1 c).length ≤ most
          · rw [if_pos (by simp; omega)]
            refine ⟨sz_of (by decide), fun w hw => ?_⟩
            have e8 : Ext G6 (up G6 w (.lst [enc (runC [] [x0] xs c).2])) := Ext.up hw
            refine add_l (e8 _ _ h7) up_same (by rw [List.length_map]; exact sz_of (by simp; omega)) fun v hv => ?_
            have e9 := e8.put (o := .lst ((runC [] [x0] xs c).1.map enc ++ [enc (runC [] [x0] xs c).2])) (e8.fresh hv)
            have ep : ((runC [] [x0] xs c).1.map enc ++ [enc (runC [] [x0] xs c).2] : List D) = (partsC r.1 c).map enc := by rw [parts, List.map_append]; rfl
            refine sorted_l (l := partsC r.1 c) (by rw [lst_up, ep]) (srt1_lists sn) fun u hu => tup_l lst_up ?_
            have e10 := e9.put (o := .lst ((srt (partsC r.1 c)).map enc)) (e9.fresh hu)
            have e11 := e7.trans e10
            refine set_n (srt (partsC r.1 c)) (e11 _ _ hm2) rfl (tup_of_list _) (by
              have : pre.length * 32 ≤ 719 * 32 := Nat.mul_le_mul_right _ hpl
              omega) ?_
            refine hK3 _ _ ⟨⟨_, _, _, _, _, rfl⟩, (e4.trans e11).put gf, (x4.trans e11.e).put, _, up_same, put_nodup hnd2, Nat.le_trans put_len (by rw [List.length_append, List.length_singleton]; omega), fun y => ?_⟩
            rw [put_mem, hmm2]
            constructor
            · rintro (h | h | ⟨c', hc', h⟩)
              · exact .inr ⟨c, by simp, hmost, h⟩
              · exact .inl h
              · exact .inr ⟨c', by simp [hc'], h⟩
            · rintro (h | ⟨c', hc', h⟩)
              · exact .inr (.inl h)
              · rcases List.mem_append.mp hc' with hc' | hc'
                · exact .inr (.inr ⟨c', hc', h⟩)
                · rw [List.mem_singleton.mp hc'] at h; exact .inl h.2
          · rw [if_neg (by simp; omega)]
            refine hK3 _ _ ⟨⟨_, _, _, _, _, rfl⟩, e4.trans e7, x4.trans e7.e, m2, e7 _ _ hm2, hnd2, by rw [List.length_append]; omega, fun y => ?_⟩
            rw [hmm2]
            constructor
            · rintro (h | ⟨c', hc', h⟩)
              · exact .inl h
              · exact .inr ⟨c', by simp [hc'], h⟩
            · rintro (h | ⟨c', hc', h⟩)
              · exact .inl h
              · rcases List.mem_append.mp hc' with hc' | hc'
                · exact .inr ⟨c', hc', h⟩
                · rw [List.mem_singleton.mp hc'] at h; exact absurd h.1 hmost
        · subst he
          have hi : i = pre3.length ∧ pre3.length < xs.length := by
            have h1 : (List.range xs.length)[pre3.length]? = (pre3 ++ i :: post3)[pre3.length]? := by rw [hl3]
            rw [List.getElem?_append_right (Nat.le_refl _), Nat.sub_self, List.getElem?_cons_zero] at h1
            obtain ⟨h2, h3⟩ := List.getElem?_eq_some_iff.mp h1
            rw [List.getElem_range] at h3
            exact ⟨h3.symm, by simpa using h2⟩
          obtain ⟨hi1, hi2⟩ := hi
          have snoc := runC_snoc (xs.take pre3.length) xs[pre3.length] [] [x0] c
          rw [List.take_append_getElem, List.length_take, Nat.min_eq_left (Nat.le_of_lt hi2)] at snoc
          walk_at "rd"
          refine sub_i ⟨_, _, rfl, rfl, by omega, ⟨_, _, rfl, rfl, ?_⟩⟩
          have eb : Builtin.bitAnd (((0 + (c : Nat)) : Int) / 2 ^ (((1 : Int) + (i : Nat)) - 1).toNat) 1 = ((c / 2 ^ pre3.length % 2 : Nat) : Int) := by
            have e1 : (((1 : Int) + (i : Nat)) - 1).toNat = pre3.length := by rw [hi1]; omega
            rw [e1, Int.zero_add]
            have e2 : ((c : Nat) : Int) / 2 ^ pre3.length = ((c / 2 ^ pre3.length : Nat) : Int) := by push_cast; rfl
            rw [e2]
            have := Bits.bitAnd_mask (x := ((c / 2 ^ pre3.length : Nat) : Int)) 1 (Int.natCast_nonneg _)
            rw [show ((2 : Int) ^ 1 - 1) = 1 from rfl] at this
            rw [this]
            push_cast
            rfl
          simp only [eb]
          refine eqE ((c / 2 ^ pre3.length % 2 : Nat) : Int) 1 ⟨_, rfl, ?_⟩
          have ixr : atI ((x0 :: xs).map (enc (α := Str))) ((1 : Int) + (i : Nat)) = some (enc xs[pre3.length]) := by
            rw [show (1 : Int) + (i : Nat) = ((pre3.length + 1 : Nat) : Int) by rw [hi1]; omega]
            refine atI_nat ?_
            rw [List.getElem?_map, List.getElem?_cons_succ, List.getElem?_eq_getElem hi2]
            rfl
          have len7 : ∀ (l : Col) (cols : List Col) (here : Col) (c : Nat), (runC cols here l c).1.length ≤ cols.length + l.length ∧ (runC cols here l c).2.length ≤ here.length + l.length + 1 := fun l => by
            induction l with
            | nil => intro cols here c; rw [runC]; exact ⟨by simp, by simp⟩
            | cons y l ih =>
              intro cols here c
              rw [runC]
              split
              · obtain ⟨a, b⟩ := ih (cols ++ [here]) [y] (c / 2)
                refine ⟨by rw [List.length_append, List.length_singleton] at a; rw [List.length_cons]; omega, by rw [List.length_singleton] at b; rw [List.length_cons]; omega⟩
              · obtain ⟨a, b⟩ := ih cols (here ++ [y]) (c / 2)
                refine ⟨by rw [List.length_cons]; omega, by rw [List.length_append, List.length_singleton] at b; rw [List.length_cons]; omega⟩
          obtain ⟨n1, n2⟩ := len7 (xs.take pre3.length) [] [x0] c
          have tl : (xs.take pre3.length).length ≤ 6 := by rw [List.length_take]; omega
          by_cases hb : c / 2 ^ pre3.length % 2 = 1
          · rw [if_pos (by simp [hb])]
            refine ⟨some_lst (lstAt_lst h7), app_m h7 (by rw [List.length_map]; simp at n1; omega) ⟨Nat.zero_le _, ?_⟩⟩
            refine ix_t ixr ⟨sz_of (by decide), add_t (sz_of (by simp)) ?_⟩
            refine hK4 _ _ ⟨⟨some (.int ((1 : Int) + (i : Nat))), o10, ?_⟩, ?_, ?_⟩
            · rw [List.length_append, List.length_singleton, snoc]
              unfold stepC
              rw [if_pos hb]
              rfl
            · exact e7.put hcl
            · rw [up_same, List.length_append, List.length_singleton, snoc]
              unfold stepC
              rw [if_pos hb, List.map_append]
              rfl
          · have hbi : ¬ ((c / 2 ^ pre3.length % 2 : Nat) : Int) = 1 := fun z => hb (Int.ofNat.inj (show Int.ofNat _ = Int.ofNat 1 from z))
            rw [decide_eq_false hbi, if_neg Bool.false_ne_true]
            refine ix_t ixr ⟨sz_of (by decide), add_t (sz_of (by rw [List.length_map]; simp at n2 ⊢; omega)) ?_⟩
            refine hK4 _ _ ⟨⟨some (.int ((1 : Int) + (i : Nat))), o10, ?_⟩, e7, ?_⟩
            · rw [List.length_append, List.length_singleton, snoc]
              unfold stepC
              rw [if_neg hb]
              congr 12
              show _ = [some (D.tup (((runC [] [x0] (xs.take pre3.length) c).2 ++ [xs[pre3.length]]).map enc))]
              rw [List.map_append]
              rfl
            · rw [h7, List.length_append, List.length_singleton, snoc]
              unfold stepC
              rw [if_neg hb]
  · subst he
    have hxl : pre.length < ks.length := by
      have := congrArg List.length hl
      rw [List.length_range, List.length_append, List.length_cons] at this; omega
    walk_at "rd"
    refine .inl fun k hk => ?_
    obtain ⟨G2, hG2⟩ : ∃ g, g = up G1 k (.dn []) := ⟨_, rfl⟩
    rw [← hG2]
    have k2 : G2 k = some (.dn (DL.encM ([] : List (Wl × D)))) := by rw [hG2, up_same]; rfl
    have gk : G k = none := e1.fresh hk
    have e2 : Ext G G2 := by rw [hG2]; exact e1.put gk
    have p2 : G2 p = some (.lst (rows.map enc)) := by rw [hG2]; exact up_get h1 hk
    refine list_l (lstAt_lst p2) fun v hv => ⟨_, _, .lst lst_up, ?_⟩
    obtain ⟨G3, hG3⟩ : ∃ g, g = up G2 v (.lst (rows.map enc)) := ⟨_, rfl⟩
    rw [← hG3]
    have e3 : Ext G2 G3 := by rw [hG3]; exact Ext.up hv
    have v3 : G3 v = some (.lst (rows.map enc)) := by rw [hG3, up_same]
    have vk : v ≠ k := fun z => by rw [z, k2] at hv; cases hv
    have rsz := hr.small hn
    refine forD_map (fun pre2 env G4 => (∃ o6 o7 o9 o10, env = [some (.ref a), some (natD most), some (.ref p), some (.int (0 + (x : Nat))), o4, some (.ref k), o6, o7, o8, o9, o10, o11, o12]) ∧ Ext G G4 ∧ ExtE k G3 G4 ∧ ∃ m : List (Wl × D), G4 k = some (.dn (DL.encM m)) ∧ (m.map (·.1)).Nodup ∧ m.length ≤ pre2.length * (ks.length - pre.length) ∧
        ∀ y, y ∈ m.map (·.1) ↔ ∃ r ∈ pre2, y ∈ wordsO r.1 r.2)
      ⟨⟨_, _, _, _, rfl⟩, e2.trans e3, ExtE.refl _ _, [], e3 _ _ k2, List.nodup_nil, Nat.zero_le _, fun y => ⟨(fun h => by cases h), fun ⟨r, hr, _⟩ => by cases hr⟩⟩
      (fun env G4 ⟨⟨o6, o7, o9, o10, he⟩, e4, x4, m, hm, hnd, hml, hmm⟩ => ⟨x4.lst vk (lstAt_lst v3), ?_⟩)
      fun pre2 r post2 env G4 K2 hl2 ⟨⟨o6, o7, o9, o10, he⟩, e4, x4, m, hm, hnd, hml, hmm⟩ hK2 => ⟨x4.lst vk (lstAt_lst v3), ?_⟩
    · subst he
      walk_at "rd"
      refine list_n (dnl_of hm) fun p5 hp5 => ?_
      refine hK _ _ ⟨⟨p5, _, _, _, _, _, _, _, _, _, _, m.map (·.1), rfl, e4.fresh hp5, up_same, ?_⟩, e4.put (e4.fresh hp5)⟩
      rw [List.length_append, List.length_singleton]
      exact hr.next hxl hnd hmm (by rw [List.length_map]; exact hml)
    · subst he
      have hrm : r ∈ rows := by rw [hl2]; simp
      have hrl := hr.left hrm
      have hr1 := (hr.ok r hrm).1
      have hp2 : pre2.length ≤ 720 := by
        have := congrArg List.length hl2
        rw [List.length_append, List.length_cons] at this; omega
      walk_at "rd"
      refine ⟨_, rfl, rfl, _, _, rfl, _, _, rfl, rfl, .inr ⟨_, rfl, ?_⟩⟩
      rw [show enumD 0 (r.2.map (enc (α := Str))) = _ from enumD_zip r.2 0]
      refine forD_map (fun pre3 env G5 => (∃ o9 o10, env = [some (.ref a), some (natD most), some (.ref p), some (.int (0 + (x : Nat))), o4, some (.ref k), some (enc r.1), some (enc r.2), o8, o9, o10, o11, o12]) ∧ Ext G G5 ∧ ExtE k G3 G5 ∧ ∃ m2 : List (Wl × D), G5 k = some (.dn (DL.encM m2)) ∧ (m2.map (·.1)).Nodup ∧ m2.length ≤ m.length + pre3.length ∧
          ∀ y, y ∈ m2.map (·.1) ↔ y ∈ m.map (·.1) ∨ ∃ z ∈ pre3, putO r.1 r.2 z = some y)
        ⟨⟨_, _, rfl⟩, e4, x4, m, hm, hnd, Nat.le_refl _, fun y => ⟨.inl, fun h => h.elim id fun ⟨z, hz, _⟩ => by cases hz⟩⟩
        (fun env G5 ⟨⟨o9, o10, he⟩, e5, x5, m2, hm2, hnd2, hml2, hmm2⟩ => ⟨trivial, ?_⟩)
        fun pre3 z post3 env G5 K3 hl3 ⟨⟨o9, o10, he⟩, e5, x5, m2, hm2, hnd2, hml2, hmm2⟩ hK3 => ⟨trivial, ?_⟩
      · refine hK2 _ _ ⟨⟨_, _, _, _, he⟩, e5, x5, m2, hm2, hnd2, ?_, fun y => ?_⟩
        · rw [List.length_zipIdx] at hml2
          rw [List.length_append, List.length_singleton, Nat.add_mul]
          omega
        · rw [hmm2, hmm]
          constructor
          · rintro (⟨r', hr', h⟩ | ⟨z, hz, h⟩)
            · exact ⟨r', by simp [hr'], h⟩
            · exact ⟨r, by simp, List.mem_filterMap.mpr ⟨z, hz, h⟩⟩
          · rintro ⟨r', hr', h⟩
            rcases List.mem_append.mp hr' with hr' | hr'
            · exact .inl ⟨r', hr', h⟩
            · rw [List.mem_singleton.mp hr'] at h
              obtain ⟨z, hz, h⟩ := List.mem_filterMap.mp h
              exact .inr ⟨z, hz, h⟩
      · subst he
        obtain ⟨hz2, hz1⟩ := zipIdx_split hl3
        have hz2 : z.2 = pre3.length := by omega
        have hlen : pre3.length < r.2.length := by
          have := congrArg List.length hz1
          simp at this; omega
        walk_at "rd"
        refine ⟨_, rfl, rfl, _, _, rfl, _, _, rfl, rfl, _, rfl, .tup ?_⟩
        rw [cut_head, ← List.map_take]
        refine nin_t z.1 rfl ⟨_, rfl, ?_⟩
        by_cases hz : z.1 ∈ r.2.take z.2
        · rw [if_neg (by simp [hz])]
          refine hK3 _ _ ⟨⟨_, _, rfl⟩, e5, x5, m2, hm2, hnd2, by rw [List.length_append]; omega, fun y => ?_⟩
          rw [hmm2]
          constructor
          · rintro (h | ⟨z', hz', h⟩)
            · exact .inl h
            · exact .inr ⟨z', by simp [hz'], h⟩
          · rintro (h | ⟨z', hz', h⟩)
            · exact .inl h
            · rcases List.mem_append.mp hz' with hz' | hz'
              · exact .inr ⟨z', hz', h⟩
              · rw [List.mem_singleton.mp hz'] at h
                unfold putO at h
                rw [if_neg (by simpa using hz)] at h
                cases h
        · rw [if_pos (by simp [hz])]
          have hput : putO r.1 r.2 z = some (r.1 ++ [z.1], r.2.take z.2 ++ r.2.drop (z.2 + 1)) := by unfold putO; rw [if_pos hz]
          refine ⟨sz_of (by decide), add_t (sz_of (by rw [List.length_map]; simp; omega)) ⟨_, rfl, .tup (add_i ⟨((z.2 + 1 : Nat) : Int), by rw [Int.natCast_add]; rfl, .tup ?_⟩)⟩⟩
          rw [cut_head, cut_tail, ← List.map_take, ← List.map_drop]
          refine add_t (sz_of (by simp; omega)) ⟨sz_of (by decide), ?_⟩
          rw [← List.map_append]
          have hkey : (D.tup [D.tup (r.1.map enc ++ [enc z.1]), D.tup ((r.2.take z.2 ++ r.2.drop (z.2 + 1)).map enc)]) = enc ((r.1 ++ [z.1], r.2.take z.2 ++ r.2.drop (z.2 + 1)) : Wl) := by
            show _ = D.tup [D.tup ((r.1 ++ [z.1]).map enc), D.tup ((r.2.take z.2 ++ r.2.drop (z.2 + 1)).map enc)]
            simp only [List.map_append]
            rfl
          refine set_n (r.1 ++ [z.1], r.2.take z.2 ++ r.2.drop (z.2 + 1)) hm2 hkey ⟨_, rfl⟩ ?_ ?_
          · have : pre2.length * (ks.length - pre.length) ≤ 720 * 6 := Nat.mul_le_mul hp2 (by omega)
            omega
          · refine hK3 _ _ ⟨⟨_, _, rfl⟩, e5.put gk, x5.put, _, up_same, put_nodup hnd2, Nat.le_trans put_len (by rw [List.length_append, List.length_singleton]; omega), fun y => ?_⟩
            rw [put_mem, hmm2]
            constructor
            · rintro (h | h | ⟨z', hz', h⟩)
              · exact .inr ⟨z, by simp, by rw [hput, h]⟩
              · exact .inl h
              · exact .inr ⟨z', by simp [hz'], h⟩
            · rintro (h | ⟨z', hz', h⟩)
              · exact .inr (.inl h)
              · rcases List.mem_append.mp hz' with hz' | hz'
                · exact .inr (.inr ⟨z', hz', h⟩)
                · rw [List.mem_singleton.mp hz', hput] at h
                  exact .inl (Option.some.inj h).symm
end W81
end
section
set_option Elab.async false
set_option linter.all false
set_option maxRecDepth 100000
set_option maxHeartbeats 4000000
namespace W81
open PySem PySem.Spec PyProof.Rows L2 DL
local macro_rules | `(tactic| walk_at "rd") => `(tactic| simp only [dSeq, dIfS, dOrT, dAndT, dNotT, dTest, dRet, dRetN, dAndV, dOrV, dNotV, dB, dCons, dNil, dC, dVar_iff, dBin, dChain, dAsg, dgName, dgTup, dgCons, dgNil, dCall, dTup, dLst, dNeg, dIf, dDrop, dNext, dYes, turnD, wipeD, dLc, diSeq, dSl, doSome, doNone, dM, dM0, dFor, dOr, dgSub, dIsN, dNotN, dEnum, dRange1, dRange2, dZip, dListZip, dAug, dPar, dRev, dRevL, dSlK, dZipY, dKeysN, dValsN, dItemsN, dLockE, dLockS, dSetdef, dDNewN, dDNew, dDispN, dDisp, dCallX, dDropX, dRetX, dAsgX, dRaise, dCallL, dCallR, dCallXR, dLc2, turn2, startD, List.map_cons, List.map_nil, List.cons_append, List.nil_append, List.length_cons, List.length_nil, Nat.reduceAdd, Nat.reduceSub, Nat.zero_add, List.reduceReplicate, List.replicate_succ, List.replicate_zero, List.getElem?_cons_zero, List.getElem?_cons_succ, List.set_cons_zero, List.set_cons_succ, if_true])
/-! ### names -/
theorem named_ok {k : Str} (h : Named k) : nameB k = true ∧ k.length ≤ 8 ∧ (reprText k).length ≤ 100 := by
  have key : ∀ k ∈ names1 ++ names2, nameB k = true ∧ k.length ≤ 8 ∧ (reprText k).length ≤ 100 := by decide +kernel
  exact key k (by rcases h with h | h; exact List.mem_append_left _ h; exact List.mem_append_right _ h)
theorem yrd_ok {ks : Col} {m : Nat} {y : Yrd} (h : IsYd ks m y) (hk : ∀ k ∈ ks, Named k) (hn : ks.length ≤ 6) : isYrdD (enc y) = true := by
  have nm : ∀ c ∈ y, ∀ k ∈ c, Named k := fun c hc k hkc => hk k (h.kinds.mem_iff.mp (List.mem_flatten.mpr ⟨c, hc, hkc⟩))
  have l1 := yrd_len h.ne
  rw [h.kinds.length_eq] at l1
  have cols : (y.map dCol).all isColD = true := by
    rw [List.all_eq_true]
    intro d hd
    obtain ⟨c, hc, rfl⟩ := List.mem_map.mp hd
    have l2 := mem_len hc
    rw [h.kinds.length_eq] at l2
    have l3 := List.length_pos_iff.mpr (h.ne c hc)
    show (decide (0 < (c.map (enc (α := Str))).length) && decide ((c.map (enc (α := Str))).length ≤ 400) && (c.map (enc (α := Str))).all isNameD) = true
    rw [List.length_map, decide_eq_true l3, decide_eq_true (by omega : c.length ≤ 400)]
    rw [Bool.true_and, Bool.true_and, List.all_eq_true]
    intro e he
    obtain ⟨k, hkc, rfl⟩ := List.mem_map.mp he
    exact (named_ok (nm c hc k hkc)).1
  have prs : (zipD (y.map dCol) ((y.map dCol).drop 1)).all pairLe = true := by
    rw [← List.map_drop, zipD_map (f := dCol) (g := dCol) y (y.drop 1), List.all_map, List.all_eq_true]
    intro p hp
    show leE p.1 p.2 = true
    have : ∀ (l : Yrd), l.Pairwise (leE · ·) → ∀ p ∈ l.zip (l.drop 1), leE p.1 p.2 = true := fun l => by
      induction l with
      | nil => intro _ p hp; cases hp
      | cons a l ih =>
        intro hl p hp
        rw [List.drop_one, List.tail_cons] at hp
        cases l with
        | nil => cases hp
        | cons b l =>
          rw [List.zip_cons_cons] at hp
          rw [List.pairwise_cons] at hl
          rcases List.mem_cons.mp hp with rfl | hp
          · exact hl.1 b List.mem_cons_self
          · exact ih hl.2 p (by rw [List.drop_one, List.tail_cons]; exact hp)
    exact this y h.pw p hp
  show (decide ((y.map dCol).length ≤ 400) && (y.map dCol).all isColD && (zipD (y.map dCol) ((y.map dCol).drop 1)).all pairLe) = true
  rw [cols, prs, List.length_map, decide_eq_true (by omega : y.length ≤ 400)]
  rfl
/-! ### repr -/
theorem tuple_len (B : Nat) : ∀ ts : List Str, (∀ t ∈ ts, t.length ≤ B) → (tupleText ts).length ≤ ts.length * (B + 2) + 3 := fun ts h => by
  have h1 : (Str.join ", " ts).length ≤ ts.length * (B + 2) := by
    cases ts with
    | nil => show (Str.join ", " []).length ≤ _; simp; rfl
    | cons t r =>
      have e := join_length_add (t :: r) (by simp)
      have p : ∀ l : List Str, (∀ t ∈ l, t.length ≤ B) → piled l ≤ l.length * (B + 2) := fun l => by
        induction l with
        | nil => intro _; rw [piled_nil]; exact Nat.zero_le _
        | cons t l ih =>
          intro h
          have := ih fun u hu => h u (List.mem_cons_of_mem _ hu)
          have := h t List.mem_cons_self
          rw [List.length_cons, Nat.add_mul]
          show t.length + 2 + piled l ≤ _
          omega
      have := p (t :: r) h
      omega
  unfold tupleText
  rw [strLen_append, strLen_append]
  have e1 : (("(" : String) : Str).length = 1 := rfl
  have e2 : ((if ts.length == 1 then ",)" else ")" : String) : Str).length ≤ 2 := by split <;> decide
  show (("(" : String) : Str).length + _ + _ ≤ _
  omega
theorem shown_all (l : List PyData) : PyData.shownAll l = l.map PyData.shown := by
  induction l with
  | nil => rw [PyData.shownAll]; rfl
  | cons x l ih => rw [PyData.shownAll, ih]; rfl
theorem showable_all {l : List PyData} (h : ∀ x ∈ l, PyData.showable x = true) : PyData.showableAll l = true := by
  induction l with
  | nil => rw [PyData.showableAll]
  | cons x l ih => rw [PyData.showableAll, h x List.mem_cons_self, ih fun y hy => h y (List.mem_cons_of_mem _ hy)]; rfl
theorem nodict_all {l : List PyData} (h : ∀ x ∈ l, PyData.hasDict x = false) : PyData.hasDictAll l = false := by
  induction l with
  | nil => rw [PyData.hasDictAll]
  | cons x l ih => rw [PyData.hasDictAll, h x List.mem_cons_self, ih fun y hy => h y (List.mem_cons_of_mem _ hy)]; rfl
theorem repr_yrd {G : Gp} {Q : DK} {y : Yrd} (hk : ∀ k ∈ y.flatten, Named k) (hn : y.flatten.length ≤ 100) (hy : y.length ≤ 100) (q : Q (.str (enc y).toP.shown) G) : oRepr [enc y] G Q := by
  have col : ∀ c ∈ y, PyData.showable (enc c : D).toP = true ∧ PyData.hasDict (enc c : D).toP = false ∧ (PyData.shown (enc c : D).toP).length ≤ 10203 := fun c hc => by
    have nm : ∀ k ∈ c, Named k := fun k h => hk k (List.mem_flatten.mpr ⟨c, hc, h⟩)
    have l1 := mem_len hc
    show PyData.showable (D.tup (c.map enc)).toP = true ∧ PyData.hasDict (D.tup (c.map enc)).toP = false ∧ (PyData.shown (D.tup (c.map enc)).toP).length ≤ _
    rw [D.toP, toPs_map, List.map_map]
    simp only [PyData.showable, PyData.hasDict, PyData.shown, shown_all, List.map_map]
    refine ⟨showable_all fun x hx => ?_, nodict_all fun x hx => ?_, ?_⟩
    · obtain ⟨k, _, rfl⟩ := List.mem_map.mp hx
      show PyData.showable (D.str k).toP = true
      rw [D.toP]; simp only [PyData.showable]
    · obtain ⟨k, _, rfl⟩ := List.mem_map.mp hx
      show PyData.hasDict (D.str k).toP = false
      rw [D.toP]; simp only [PyData.hasDict]
    · refine Nat.le_trans (tuple_len 100 _ fun t ht => ?_) (by rw [List.length_map]; omega)
      obtain ⟨k, hkc, rfl⟩ := List.mem_map.mp ht
      show (PyData.shown (D.str k).toP).length ≤ 100
      rw [D.toP]; simp only [PyData.shown]
      exact (named_ok (nm k hkc)).2.2
  refine ⟨enc y, _, rfl, .inl ⟨_, rfl⟩, .dat (okd8 y (by decide)), ?_, ?_, sz_of ?_, q⟩
  · show PyData.showable (D.tup (y.map enc)).toP = true
    rw [D.toP, toPs_map, List.map_map]
    simp only [PyData.showable]
    exact showable_all fun x hx => by
      obtain ⟨c, hc, rfl⟩ := List.mem_map.mp hx
      exact (col c hc).1
  · show PyData.hasDict (D.tup (y.map enc)).toP = false
    rw [D.toP, toPs_map, List.map_map]
    simp only [PyData.hasDict]
    exact nodict_all fun x hx => by
      obtain ⟨c, hc, rfl⟩ := List.mem_map.mp hx
      exact (col c hc).2.1
  · show (PyData.shown (D.tup (y.map enc)).toP).length ≤ _
    rw [D.toP, toPs_map, List.map_map]
    simp only [PyData.shown, shown_all, List.map_map]
    refine Nat.le_trans (tuple_len 10203 _ fun t ht => ?_) (by rw [List.length_map]; omega)
    obtain ⟨c, hc, rfl⟩ := List.mem_map.mp ht
    exact (col c hc).2.2
/-! ### classes -/
theorem addG_keys {l : Gr} {one : Yrd} (h : (l.map (·.1)).Nodup) : ((addG l one).map (·.1)).Nodup := by
  have e : (addG l one).map (·.1) = (ensG (setOut one) l).map (·.1) := by
    unfold addG appG
    rw [List.map_map]
    apply List.map_congr_left
    intro g _
    simp only [Function.comp]
    split <;> rfl
  rw [e]
  unfold ensG
  split
  · exact h
  · rename_i hn
    rw [List.map_append]
    exact List.nodup_append.mpr ⟨h, by simp, fun x hx y hy z => hn (by
      have : y = setOut one := by simpa using hy
      rw [← this, ← z]; exact hx)⟩
/-- the groups: unlike keys; each yard stands with its own key; so many yards in all -/
theorem groups_key : ∀ ys : List Yrd, ((groups ys).map (·.1)).Nodup ∧ (∀ g ∈ groups ys, ∀ y ∈ g.2, setOut y = g.1) ∧ (∀ y ∈ ys, ∃ g ∈ groups ys, y ∈ g.2) ∧ ((groups ys).map fun g => g.2.length).sum = ys.length := by
  refine snoc_ind ⟨List.nodup_nil, (fun g hg => by cases hg), (fun y hy => by cases hy), rfl⟩ fun ys one ⟨h1, h2, h3, h4⟩ => ?_
  rw [groups_snoc]
  have ek : ∀ d ∈ ensG (setOut one) (groups ys), ∀ y ∈ d.2, setOut y = d.1 := fun d hd => by
    unfold ensG at hd
    split at hd
    · exact h2 d hd
    · rcases List.mem_append.mp hd with hd | hd
      · exact h2 d hd
      · rw [List.mem_singleton.mp hd]; intro y hy; cases hy
  have enod : ((ensG (setOut one) (groups ys)).map (·.1)).Nodup := by
    unfold ensG
    split
    · exact h1
    · rename_i hn
      rw [List.map_append]
      exact List.nodup_append.mpr ⟨h1, by simp, fun x hx y hy z => hn (by
        have : y = setOut one := by simpa using hy
        rw [← this, ← z]; exact hx)⟩
  have emem : setOut one ∈ (ensG (setOut one) (groups ys)).map (·.1) := by
    unfold ensG
    split
    · assumption
    · simp
  have esum : ((ensG (setOut one) (groups ys)).map fun g => g.2.length).sum = ys.length := by
    unfold ensG
    split
    · exact h4
    · rw [List.map_append, List.sum_append, h4]; simp
  have ein : ∀ y ∈ ys, ∃ g ∈ ensG (setOut one) (groups ys), y ∈ g.2 := fun y hy => by
    obtain ⟨g, hg, hgy⟩ := h3 y hy
    refine ⟨g, ?_, hgy⟩
    unfold ensG
    split
    · exact hg
    · exact List.mem_append_left _ hg
  refine ⟨addG_keys h1, fun g hg y hy => ?_, fun y hy => ?_, ?_⟩
  · obtain ⟨d, hd, rfl⟩ := List.mem_map.mp hg
    by_cases e : d.1 = setOut one
    · rw [if_pos e] at hy ⊢
      rcases List.mem_append.mp hy with hy | hy
      · exact ek d hd y hy
      · rw [List.mem_singleton.mp hy]; exact e.symm
    · rw [if_neg e] at hy ⊢
      exact ek d hd y hy
  · rcases List.mem_append.mp hy with hy | hy
    · obtain ⟨d, hd, hdy⟩ := ein y hy
      refine ⟨_, List.mem_map_of_mem hd, ?_⟩
      split
      · exact List.mem_append_left _ hdy
      · exact hdy
    · rw [List.mem_singleton.mp hy]
      obtain ⟨d, hd, e⟩ := List.mem_map.mp emem
      refine ⟨_, List.mem_map_of_mem hd, ?_⟩
      rw [if_pos e]
      simp
  · rw [List.length_append, List.length_singleton, ← esum]
    have : ∀ l : Gr, (l.map (·.1)).Nodup → setOut one ∈ l.map (·.1) → ((appG (setOut one) one l).map fun g => g.2.length).sum = (l.map fun g => g.2.length).sum + 1 := fun l => by
      induction l with
      | nil => intro _ h; cases h
      | cons d l ih =>
        intro hn hm
        rw [List.map_cons, List.nodup_cons] at hn
        unfold appG at ih ⊢
        rw [List.map_cons, List.map_cons, List.sum_cons, List.map_cons, List.sum_cons]
        by_cases e : d.1 = setOut one
        · rw [if_pos e]
          have none : (l.map fun g => if g.1 = setOut one then (g.1, g.2 ++ [one]) else g) = l.map id := List.map_congr_left fun g hg => if_neg fun z => hn.1 (by rw [e, ← z]; exact List.mem_map_of_mem hg)
          rw [none, List.map_id]
          show (d.2 ++ [one]).length + _ = _
          rw [List.length_append, List.length_singleton]
          omega
        · rw [if_neg e]
          rw [ih hn.2 (by rcases List.mem_cons.mp hm with z | z; exact absurd z.symm e; exact z)]
          omega
    exact this _ enod emem
theorem class_of {ks : Col} {most : Nat} {cls : List (List Yrd)} (h : IsClasses ks most cls) : (∀ c ∈ cls, c ≠ [] ∧ ∀ y ∈ c, IsYd ks most y) ∧ (∀ c ∈ cls, ∀ d ∈ cls, ∀ y ∈ c, ∀ z ∈ d, (setOut y = setOut z ↔ c = d)) := by
  obtain ⟨ys, hA, _, rfl⟩ := h.ex
  have ok := groups_ok ys
  obtain ⟨k1, k2, _, _⟩ := groups_key ys
  have mem : ∀ c, c ∈ classesOf ys ↔ ∃ g ∈ groups ys, g.2 = c := fun c => by
    unfold classesOf
    rw [mem_srt, List.mem_map]
  refine ⟨fun c hc => ?_, fun c hc d hd y hy z hz => ?_⟩
  · obtain ⟨g, hg, rfl⟩ := (mem c).mp hc
    exact ⟨ok.ne g hg, fun y hy => (hA.mem y).mp ((ok.sub g hg).subset hy)⟩
  · obtain ⟨g, hg, rfl⟩ := (mem c).mp hc
    obtain ⟨e, he, rfl⟩ := (mem d).mp hd
    rw [k2 g hg y hy, k2 e he z hz]
    constructor
    · intro h
      rw [nodup_inj k1 g hg e he h]
    · intro h
      rw [← k2 g hg y hy]
      rw [h] at hy
      exact k2 e he y hy
theorem classes_unique {ks ls : Col} {most : Nat} {a b : List (List Yrd)} (h : IsClasses ks most a) (k : IsClasses ls most b) (p : ks.Perm ls) : a = b := by
  obtain ⟨ys, hA, _, rfl⟩ := h.ex
  obtain ⟨zs, hB, _, rfl⟩ := k.ex
  rw [(hA.perm p).unique hB]
/-! ### sizes -/
mutual
def szD : D → Nat
  | .tup l => szDs l + 1
  | _ => 1
def szDs : List D → Nat
  | [] => 0
  | x :: l => szD x + szDs l
end
mutual
theorem same_okd {G : Gp} : ∀ (n : Nat) (d : D), Okd n d → SameN G (szD d) d d
  | _, .non, _ => by rw [szD]; exact .non; all_goals (intro l z; cases z)
  | _, .bl _, _ => by rw [szD]; exact .bl; all_goals (intro l z; cases z)
  | _, .int _, _ => by rw [szD]; exact .int; all_goals (intro l z; cases z)
  | _, .str _, _ => by rw [szD]; exact .str; all_goals (intro l z; cases z)
  | n + 1, .tup l, h => by rw [szD]; exact .tup (same_okds n l h)
  | 0, .tup _, h => h.elim
  | 0, .ref _, h => h.elim
  | n + 1, .ref _, h => h.elim
  | 0, .gl _, h => h.elim
  | n + 1, .gl _, h => h.elim
  | 0, .ty _, h => h.elim
  | n + 1, .ty _, h => h.elim
theorem same_okds {G : Gp} : ∀ (n : Nat) (l : List D), (∀ d ∈ l, Okd n d) → SamesN G (szDs l) l l
  | _, [], _ => by rw [szDs]; exact .nil
  | n, x :: l, h => by rw [szDs]; exact .cons (same_okd n x (h x List.mem_cons_self)) (same_okds n l fun d hd => h d (List.mem_cons_of_mem _ hd))
end
theorem szDs_le {l : List D} {B : Nat} (h : ∀ d ∈ l, szD d ≤ B) : szDs l ≤ l.length * B := by
  induction l with
  | nil => rw [szDs]; exact Nat.zero_le _
  | cons x l ih =>
    rw [szDs, List.length_cons, Nat.add_mul]
    have := h x List.mem_cons_self
    have := ih fun d hd => h d (List.mem_cons_of_mem _ hd)
    omega
theorem sz_str (k : Str) : szD (enc k) = 1 := by show szD (.str k) = 1; rw [szD]; intro l z; cases z
theorem sz_col (c : Col) : szD (enc c) = c.length + 1 := by
  show szD (.tup (c.map enc)) = _
  rw [szD]
  have : ∀ c : Col, szDs (c.map enc) = c.length := fun c => by
    induction c with
    | nil => rw [List.map_nil, szDs]; rfl
    | cons k c ih => rw [List.map_cons, szDs, sz_str, ih, List.length_cons]; omega
  rw [this]
theorem sz_yrd (y : Yrd) : szD (enc y) = y.flatten.length + y.length + 1 := by
  show szD (.tup (y.map enc)) = _
  rw [szD]
  have : ∀ y : Yrd, szDs (y.map enc) = y.flatten.length + y.length := fun y => by
    induction y with
    | nil => rw [List.map_nil, szDs]; rfl
    | cons c y ih => rw [List.map_cons, szDs, sz_col, ih, List.flatten_cons, List.length_append, List.length_cons]; omega
  rw [this]
theorem sz_classes {ks : Col} {most : Nat} {cls : List (List Yrd)} (h : IsClasses ks most cls) (hn : ks.length ≤ 6) : szD (enc cls) ≤ 1000000 := by
  obtain ⟨c1, _⟩ := class_of h
  obtain ⟨ys, hA, hl, rfl⟩ := h.ex
  obtain ⟨_, _, _, k4⟩ := groups_key ys
  have ok := groups_ok ys
  have cl : ∀ c ∈ classesOf ys, szD (enc c) ≤ c.length * 13 + 1 := fun c hc => by
    show szD (.tup (c.map enc)) ≤ _
    rw [szD]
    have := szDs_le (l := c.map enc) (B := 13) fun d hd => by
      obtain ⟨y, hy, rfl⟩ := List.mem_map.mp hd
      have iy := (c1 c hc).2 y hy
      have l1 := yrd_len iy.ne
      have l2 := iy.kinds.length_eq
      rw [sz_yrd]
      omega
    rw [List.length_map] at this
    omega
  have tot : ((classesOf ys).map List.length).sum = ys.length := by
    have p : ((classesOf ys).map List.length).Perm (((groups ys).map (·.2)).map List.length) := (srt_perm _).map _
    rw [p.sum_nat, List.map_map]
    exact k4
  have num : (classesOf ys).length ≤ ys.length := by
    unfold classesOf
    rw [srt_len, List.length_map]
    exact ok.len
  have key : ∀ l : List (List Yrd), (∀ c ∈ l, szD (enc c) ≤ c.length * 13 + 1) → szDs (l.map enc) ≤ (l.map List.length).sum * 13 + l.length := fun l => by
    induction l with
    | nil => intro _; rw [List.map_nil, szDs]; exact Nat.zero_le _
    | cons c l ih =>
      intro h
      have := ih fun d hd => h d (List.mem_cons_of_mem _ hd)
      have := h c List.mem_cons_self
      rw [List.map_cons, szDs, List.map_cons, List.sum_cons, List.length_cons, Nat.add_mul]
      omega
  show szD (.tup ((classesOf ys).map enc)) ≤ _
  rw [szD]
  have := key _ cl
  rw [tot] at this
  omega
end W81
end
section
set_option Elab.async false
set_option linter.all false
set_option maxRecDepth 100000
set_option maxHeartbeats 4000000
namespace W81
open PySem PySem.Spec PyProof.Rows L2 DL
local macro_rules | `(tactic| walk_at "rd") => `(tactic| simp only [dSeq, dIfS, dOrT, dAndT, dNotT, dTest, dRet, dRetN, dAndV, dOrV, dNotV, dB, dCons, dNil, dC, dVar_iff, dBin, dChain, dAsg, dgName, dgTup, dgCons, dgNil, dCall, dTup, dLst, dNeg, dIf, dDrop, dNext, dYes, turnD, wipeD, dLc, diSeq, dSl, doSome, doNone, dM, dM0, dFor, dOr, dgSub, dIsN, dNotN, dEnum, dRange1, dRange2, dZip, dListZip, dAug, dPar, dRev, dRevL, dSlK, dZipY, dHeard, dKeysN, dValsN, dItemsN, dLockE, dLockS, dSetdef, dDNewN, dDNew, dDispN, dDisp, dCallX, dDropX, dRetX, dAsgX, dRaise, dCallL, dCallR, dCallXR, dLc2, turn2, startD, List.map_cons, List.map_nil, List.cons_append, List.nil_append, List.length_cons, List.length_nil, Nat.reduceAdd, Nat.reduceSub, Nat.zero_add, List.reduceReplicate, List.replicate_succ, List.replicate_zero, List.getElem?_cons_zero, List.getElem?_cons_succ, List.set_cons_zero, List.set_cons_succ, if_true])
def tk81 (C1 C2 : Addr) (C : Addr) (w : Str) : Prop := (C = C1 ∧ w = "yard") ∨ (C = C2 ∧ w = "many")
theorem tb_ext {PT : Addr} {q : Str} {G G' : Gp} (h : OneTb PT q G) {d la : Addr} (x : ExtD d la G G') (n1 : PT ≠ d) (n2 : PT ≠ la) : OneTb PT q G' := ⟨x.old _ _ n1 n2 h.1, fun a r e => h.2 a r (x.tb a r e)⟩
section
variable {K : PySem.W.Frag} {C1 C2 PT a d la : Addr} {qT : Str} {G : Gp} {Q : DK} {Kx : Ev → Gp → Prop} {o0 o1 o2 o3 o4 o5 o6 o7 o8 o9 o10 o11 o12 o13 o14 o15 o16 : Option D}
theorem st2 (dk : Deck G d la) (h : ∀ (n : Nat) G', 1 ≤ n → n ≤ 6 → Deck G' d la → ExtD d la G G' → Kx [o0, some (.ref d), some (natD n), o3, o4, o5, o6, o7, o8, o9, o10, o11, o12, o13, o14, o15, o16] G') :
    r_law_2 spSame (spLike C1 C2) spPick (spJudge C1) spDraw spOwn spInCols spBoxes (spDeck K) PT qT (tk81 C1 C2) { nx := Kx, rt := Q } [o0, some (.ref d), o2, o3, o4, o5, o6, o7, o8, o9, o10, o11, o12, o13, o14, o15, o16] G := by
  unfold r_law_2
  walk_at "rd"
  refine ⟨d, la, 10, rfl, by decide, by decide, dk, fun G2 v v0 v1 dk2 x2 => eqE v 0 ⟨_, rfl, ?_⟩⟩
  split
  · exact h 6 G2 (by decide) (by decide) dk2 x2
  · refine ⟨d, la, 5, rfl, by decide, by decide, dk2, fun G3 u u0 u1 dk3 x3 => add_i ?_⟩
    have e : (1 : Int) + u = ((1 + u.toNat : Nat) : Int) := by omega
    rw [e]
    exact h (1 + u.toNat) G3 (by omega) (by omega) dk3 (x2.trans x3)
theorem st3 {n : Nat} (dk : Deck G d la) (h1 : 1 ≤ n) (h6 : n ≤ 6) (h : ∀ (b : Addr) (bs : Col) (m : Nat) G', bs.length = n → (∀ k ∈ bs, Named k) → 1 ≤ m → m ≤ 6 → b ≠ d → b ≠ la → lstAt G' b = some (bs.map D.str) → Deck G' d la → ExtD d la G G' →
      Kx [o0, some (.ref d), some (natD n), o3, o4, o5, o6, some (.ref b), some (natD m), o9, o10, o11, o12, o13, o14, o15, o16] G') :
    r_law_3 spSame (spLike C1 C2) spPick (spJudge C1) spDraw spOwn spInCols spBoxes (spDeck K) PT qT (tk81 C1 C2) { nx := Kx, rt := Q } [o0, some (.ref d), some (natD n), o3, o4, o5, o6, o7, o8, o9, o10, o11, o12, o13, o14, o15, o16] G := by
  unfold r_law_3
  walk_at "rd"
  refine ⟨d, la, n, 3, rfl, by omega, by decide, by decide, dk, fun G2 b bs l2 nm dk2 x2 gb hb => ?_⟩
  refine ⟨d, la, 6, rfl, by decide, by decide, dk2, fun G3 u u0 u1 dk3 x3 => add_i ⟨_, _, rfl, ?_⟩⟩
  have e : (1 : Int) + u = ((1 + u.toNat : Nat) : Int) := by omega
  rw [e]
  obtain ⟨bd, bl⟩ := dk.far gb
  exact h b bs (1 + u.toNat) G3 l2 nm (by omega) (by omega) bd bl (x3.lst bd bl (lstAt_lst hb)) dk3 (x2.trans x3)
theorem st4 {n m : Nat} {b : Addr} {bs : Col} (dk : Deck G d la) (hl : bs.length ≤ 6) (bd : b ≠ d) (bl : b ≠ la) (hb : lstAt G b = some (bs.map D.str)) (h : ∀ (y : Yrd) (c : Nat) G', IsYd bs c y → Deck G' d la → ExtD d la G G' →
      Kx [o0, some (.ref d), o2, some (enc y), o4, o5, o6, some (.ref b), o8, o9, o10, o11, o12, o13, o14, o15, o16] G') :
    r_law_4 spSame (spLike C1 C2) spPick (spJudge C1) spDraw spOwn spInCols spBoxes (spDeck K) PT qT (tk81 C1 C2) { nx := Kx, rt := Q } [o0, some (.ref d), o2, o3, o4, o5, o6, some (.ref b), o8, o9, o10, o11, o12, o13, o14, o15, o16] G := by
  unfold r_law_4
  walk_at "rd"
  refine ⟨d, la, 4, rfl, by decide, by decide, dk, fun G3 u u0 u1 dk3 x3 => add_i ?_⟩
  have e : (1 : Int) + u = ((1 + u.toNat : Nat) : Int) := by omega
  rw [e]
  exact ⟨d, la, b, bs, 1 + u.toNat, rfl, bd, bl, x3.lst bd bl hb, by omega, by omega, by omega, dk3, fun G' y hy dk' x' => h y (1 + u.toNat) G' hy dk' (x3.trans x')⟩
theorem st5 {m : Nat} {b : Addr} {bs : Col} {y : Yrd} {c : Nat} (hl : bs.length ≤ 6) (hne : bs ≠ []) (hb : lstAt G b = some (bs.map D.str)) (hy : IsYd bs c y) (nm : ∀ k ∈ bs, Named k) (h : ∀ (cls : List (List Yrd)) G', IsClasses bs m cls → Ext G G' →
      Kx [o0, o1, o2, some (enc y), o4, o5, o6, some (.ref b), some (natD m), some (enc cls), some (.str (enc y).toP.shown), o11, o12, o13, o14, o15, o16] G') :
    r_law_5 spSame (spLike C1 C2) spPick (spJudge C1) spDraw spOwn spInCols spBoxes (spDeck K) PT qT (tk81 C1 C2) { nx := Kx, rt := Q } [o0, o1, o2, some (enc y), o4, o5, o6, some (.ref b), some (natD m), o9, o10, o11, o12, o13, o14, o15, o16] G := by
  unfold r_law_5
  walk_at "rd"
  have hb' : lstAt G b = some (bs.map (enc (α := Str))) := hb
  refine sorted_l hb' srt1_strs fun p hp => ⟨p, srt bs, m, rfl, lst_up, by rw [srt_len]; exact hl, fun z => hne (by have := congrArg List.length z; rw [srt_len] at this; exact List.length_eq_zero_iff.mp this), fun G2 cls e2 hc => ?_⟩
  have l1 := yrd_len hy.ne
  have l2 := hy.kinds.length_eq
  refine repr_yrd (fun k hk => nm k (hy.kinds.mem_iff.mp hk)) (by omega) (by omega) ⟨_, _, rfl, ?_⟩
  obtain ⟨ys, hA, hyl, e⟩ := hc.ex
  exact h cls G2 ⟨ys, hA.perm (srt_perm _), hyl, e⟩ ((Ext.up hp).trans e2)
theorem st6 {m : Nat} {y : Yrd} {bs : Col} {c : Nat} {cls : List (List Yrd)} (dk : Deck G d la) (hl : bs.length ≤ 6) (hne : bs ≠ []) (m1 : 1 ≤ m) (m6 : m ≤ 6) (hy : IsYd bs c y) (nm : ∀ k ∈ bs, Named k) (hc : IsClasses bs m cls) (h : ∀ G', Deck G' d la → ExtD d la G G' →
      Kx [o0, some (.ref d), o2, some (enc y), some (enc cls), o5, o6, o7, some (natD m), o9, o10, o11, o12, o13, o14, o15, o16] G') :
    r_law_6 spSame (spLike C1 C2) spPick (spJudge C1) spDraw spOwn spInCols spBoxes (spDeck K) PT qT (tk81 C1 C2) { nx := Kx, rt := Q } [o0, some (.ref d), o2, some (enc y), o4, o5, o6, o7, some (natD m), o9, o10, o11, o12, o13, o14, o15, o16] G := by
  unfold r_law_6
  walk_at "rd"
  have like : ∀ (G2 : Gp), Deck G2 d la → ExtD d la G G2 → calmX (spLike C1 C2) [enc y, natD m] G2 fun d1 G3 => Kx [o0, some (.ref d), o2, some (enc y), some d1, o5, o6, o7, some (natD m), o9, o10, o11, o12, o13, o14, o15, o16] G3 := fun G2 dk2 x2 => by
    refine ⟨enc y, natD m, rfl, lk2_yrd G2 y fun k hk => Nat.le_trans (named_ok (nm k (hy.kinds.mem_iff.mp hk))).2.1 (by decide), trivial, .inr (.inr ⟨yrd_ok hy nm hl, ?_, y, m, rfl, rfl, ⟨hy.ne, by rw [hy.kinds.length_eq]; omega⟩, by rw [hy.kinds.length_eq]; exact hl, fun z => hne (by have := hy.kinds.symm; rw [z] at this; exact this.eq_nil), fun G' cls' e' hc' => ?_⟩)⟩
    · show (decide (-1000000000000 ≤ (m : Int)) && decide ((m : Int) ≤ 1000000000000) && decide ((1 : Int) ≤ m) && decide ((m : Int) ≤ 6)) = true
      rw [decide_eq_true (by omega), decide_eq_true (by omega), decide_eq_true (by omega), decide_eq_true (by omega)]
      rfl
    · rw [classes_unique hc' hc hy.kinds]
      exact h G' (dk2.ext e') (x2.trans e'.d)
  refine ⟨d, la, 2, rfl, by decide, by decide, dk, fun G2 v v0 v1 dk2 x2 => eqE v 0 ⟨_, rfl, ?_⟩⟩
  split
  · exact like G2 dk2 x2
  · exact like G2 dk2 x2
theorem st7 {y : Yrd} {bs : Col} {c m : Nat} {cls : List (List Yrd)} (hl : bs.length ≤ 6) (hy : IsYd bs c y) (nm : ∀ k ∈ bs, Named k) (hc : IsClasses bs m cls) (h : ∀ G', Ext G G' →
      Kx [o0, o1, o2, some (enc y), some (enc cls), o5, o6, o7, o8, some (enc cls), some (.str (enc y).toP.shown), o11, o12, o13, o14, o15, o16] G') :
    r_law_7 spSame (spLike C1 C2) spPick (spJudge C1) spDraw spOwn spInCols spBoxes (spDeck K) PT qT (tk81 C1 C2) { nx := Kx, rt := Q } [o0, o1, o2, some (enc y), some (enc cls), o5, o6, o7, o8, some (enc cls), some (.str (enc y).toP.shown), o11, o12, o13, o14, o15, o16] G := by
  unfold r_law_7
  walk_at "rd"
  refine ⟨enc cls, enc cls, _, rfl, Nat.le_trans (sz_classes hc hl) (by decide), same_okd _ _ (Enc.okd cls), fun G2 e2 => ⟨_, rfl, ?_⟩⟩
  rw [if_neg (by decide)]
  have l1 := yrd_len hy.ne
  have l2 := hy.kinds.length_eq
  refine repr_yrd (fun k hk => nm k (hy.kinds.mem_iff.mp hk)) (by omega) (by omega) (neE (enc y).toP.shown (enc y).toP.shown ⟨_, rfl, ?_⟩)
  rw [if_neg (by simp)]
  exact h G2 e2
theorem classes_small {ks : Col} {most : Nat} {cls : List (List Yrd)} (h : IsClasses ks most cls) : cls.length ≤ 50000 ∧ ∀ c ∈ cls, c.length ≤ 50000 := by
  obtain ⟨ys, hA, hl, rfl⟩ := h.ex
  have ok := groups_ok ys
  unfold classesOf
  refine ⟨by rw [srt_len, List.length_map]; have := ok.len; omega, fun c hc => ?_⟩
  rw [mem_srt, List.mem_map] at hc
  obtain ⟨g, hg, rfl⟩ := hc
  have := (ok.sub g hg).length_le
  omega
theorem classes_ne {ks : Col} {most : Nat} {cls : List (List Yrd)} (h : IsClasses ks most cls) (hk : ks ≠ []) (h1 : 1 ≤ most) : cls ≠ [] := by
  obtain ⟨ys, hA, hl, rfl⟩ := h.ex
  have : [ks] ∈ ys := (hA.mem [ks]).mpr ⟨by simp, (fun c hc => by rw [List.mem_singleton.mp hc]; exact hk), by simp, by simpa using h1⟩
  obtain ⟨g, hg, _⟩ := (groups_key ys).2.2.1 _ this
  intro z
  have hm : g.2 ∈ classesOf ys := by
    unfold classesOf
    rw [mem_srt]
    exact List.mem_map_of_mem hg
  rw [z] at hm
  cases hm
theorem paper_eq {found : Col} (q : Q (.bl (decide (found = []))) G) : oEqA (paperD found) (.tup [.str "alike"]) G Q := by
  have o1 : Okd 8 (D.tup [.str "alike"]) := fun d hd => by rw [List.mem_singleton.mp hd]; exact okd_str
  unfold paperD alikeD
  by_cases h : found = []
  · rw [if_pos h]
    rw [decide_eq_true h] at q
    refine .inl ⟨_, _, .dat o1, .dat o1, ?_⟩
    have e : PyData.eqv (D.tup [.str "alike"]).toP (D.tup [.str "alike"]).toP = true := by
      have := Enc.eqv ([("alike" : Str)] : Col) ["alike"]
      exact this.trans (by simp)
    rw [e]; exact q
  · rw [if_neg h]
    rw [decide_eq_false h] at q
    have o2 : Okd 8 (D.tup [.str "unlike", enc found]) := fun d hd => by
      rcases List.mem_cons.mp hd with rfl | hd
      · exact okd_str
      · rw [List.mem_singleton.mp hd]; exact okd_mono (Enc.okd found) (by decide)
    refine .inl ⟨_, _, .dat o2, .dat o1, ?_⟩
    have e : PyData.eqv (D.tup [.str "unlike", enc found]).toP (D.tup [.str "alike"]).toP = false := by
      rw [D.toP, D.toP]
      simp only [PyData.eqv, toPs, PyData.eqvAll, Bool.and_false]
    rw [e]; exact q
theorem st8 {bs : Col} {m : Nat} {cls : List (List Yrd)} (dk : Deck G d la) (hl : bs.length ≤ 6) (hne : bs ≠ []) (m1 : 1 ≤ m) (nm : ∀ k ∈ bs, Named k) (hc : IsClasses bs m cls) (h : ∀ G' o5 o13 o14 o15 o16, Deck G' d la → ExtD d la G G' →
      Kx [o0, some (.ref d), o2, o3, o4, o5, o6, o7, o8, some (enc cls), o10, o11, o12, o13, o14, o15, o16] G') :
    r_law_8 spSame (spLike C1 C2) spPick (spJudge C1) spDraw spOwn spInCols spBoxes (spDeck K) PT qT (tk81 C1 C2) { nx := Kx, rt := Q } [o0, some (.ref d), o2, o3, o4, o5, o6, o7, o8, some (enc cls), o10, o11, o12, o13, o14, o15, o16] G := by
  unfold r_law_8
  obtain ⟨c1, c2⟩ := class_of hc
  obtain ⟨s1, s2⟩ := classes_small hc
  have ne := classes_ne hc hne m1
  walk_at "rd"
  refine ⟨3, rfl, by decide, sz_of (by decide), ?_⟩
  unfold rgD
  refine forD_map (fun pre env G1 => (∃ o5 o13 o14 o15 o16, env = [o0, some (.ref d), o2, o3, o4, o5, o6, o7, o8, some (enc cls), o10, o11, o12, o13, o14, o15, o16]) ∧ Deck G1 d la ∧ ExtD d la G G1) ⟨⟨_, _, _, _, _, rfl⟩, dk, ExtD.refl _ _ _⟩ (fun env G1 ⟨⟨o5, o13, o14, o15, o16, he⟩, dk1, x1⟩ => ⟨trivial, by subst he; exact h G1 _ _ _ _ _ dk1 x1⟩) fun pre x post env G1 K2 hl2 ⟨⟨o5, o13, o14, o15, o16, he⟩, dk1, x1⟩ hK => ⟨trivial, ?_⟩
  subst he
  walk_at "rd"
  have pickc : ∀ (G2 : Gp) (R : DK), Deck G2 d la → (∀ c G', c ∈ cls → Deck G' d la → ExtD d la G2 G' → R (enc c) G') → spPick [.ref d, enc cls] G2 R := fun G2 R dk2 hR => by
    refine ⟨d, la, enc cls, cls.map enc, rfl, .inl rfl, by simpa using ne, by rw [List.length_map]; omega, dk2, fun G' v hv dk' x' => ?_⟩
    obtain ⟨c, hcm, rfl⟩ := List.mem_map.mp hv
    exact hR c G' hcm dk' x'
  have picky : ∀ (G2 : Gp) (R : DK) (c : List Yrd), c ∈ cls → Deck G2 d la → (∀ y G', y ∈ c → Deck G' d la → ExtD d la G2 G' → R (enc y) G') → spPick [.ref d, enc c] G2 R := fun G2 R c hcm dk2 hR => by
    refine ⟨d, la, enc c, c.map enc, rfl, .inl rfl, by simpa using (c1 c hcm).1, by rw [List.length_map]; have := s2 c hcm; omega, dk2, fun G' v hv dk' x' => ?_⟩
    obtain ⟨y, hym, rfl⟩ := List.mem_map.mp hv
    exact hR y G' hym dk' x'
  refine pickc G1 _ dk1 fun c G2 hcm dk2 x2 => pickc G2 _ dk2 fun e G3 hem dk3 x3 => ⟨_, _, rfl, ?_⟩
  refine picky G3 _ c hcm dk3 fun y G4 hyc dk4 x4 => picky G4 _ e hem dk4 fun z G5 hze dk5 x5 => ⟨_, _, rfl, ?_⟩
  have iy := (c1 c hcm).2 y hyc
  have iz := (c1 e hem).2 z hze
  have lk : ∀ (G2 : Gp) {w : Yrd}, IsYd bs m w → Lk2 G2 (enc w) := fun G2 w iw => lk2_yrd G2 w fun k hk => Nat.le_trans (named_ok (nm k (iw.kinds.mem_iff.mp hk))).2.1 (by decide)
  refine ⟨(y, z), bs.length, rfl, ⟨iy.ne, iz.ne, iy.kinds.trans iz.kinds.symm, iy.kinds.length_eq⟩, by omega, yrd_ok iy nm hl, yrd_ok iz nm hl, lk G5 iy, lk G5 iz, fun G6 found e6 hf => ?_⟩
  refine ⟨sz_of (by decide), paper_eq (eqE c e (ne_bl ⟨_, rfl, ?_⟩))⟩
  have iff : (found = []) ↔ c = e := hf.trans (c2 c hcm e hem y hyc z hze)
  have eb : decide (found = []) = decide (c = e) := by
    by_cases hz : found = []
    · rw [decide_eq_true hz, decide_eq_true (iff.mp hz)]
    · rw [decide_eq_false hz, decide_eq_false fun w => hz (iff.mpr w)]
  rw [eb, if_neg (by simp)]
  exact hK _ _ ⟨⟨_, _, _, _, _, rfl⟩, dk5.ext e6, x1.trans (x2.trans (x3.trans (x4.trans (x5.trans e6.d))))⟩
end
end W81
end
section
set_option Elab.async false
set_option linter.all false
set_option maxRecDepth 100000
set_option maxHeartbeats 4000000
namespace W81
open PySem PySem.Spec PyProof.Rows L2 DL
local macro_rules | `(tactic| walk_at "rd") => `(tactic| simp only [dSeq, dIfS, dOrT, dAndT, dNotT, dTest, dRet, dRetN, dAndV, dOrV, dNotV, dB, dCons, dNil, dC, dVar_iff, dBin, dChain, dAsg, dgName, dgTup, dgCons, dgNil, dCall, dTup, dLst, dNeg, dIf, dDrop, dNext, dYes, turnD, wipeD, dLc, diSeq, dSl, doSome, doNone, dM, dM0, dFor, dOr, dgSub, dIsN, dNotN, dEnum, dRange1, dRange2, dZip, dListZip, dAug, dPar, dRev, dRevL, dSlK, dZipY, dHeard, dKeysN, dValsN, dItemsN, dLockE, dLockS, dSetdef, dDNewN, dDNew, dDispN, dDisp, dCallX, dDropX, dRetX, dAsgX, dRaise, dCallL, dCallR, dCallXR, dLc2, turn2, startD, List.map_cons, List.map_nil, List.cons_append, List.nil_append, List.length_cons, List.length_nil, Nat.reduceAdd, Nat.reduceSub, Nat.zero_add, List.reduceReplicate, List.replicate_succ, List.replicate_zero, List.getElem?_cons_zero, List.getElem?_cons_succ, List.set_cons_zero, List.set_cons_succ, if_true])
/-! ### what is no yard, no number -/
def BadD (G : Gp) (d la : Addr) (y : Yrd) (bad : D) : Prop := bad ∈ ([.non, .tup [.tup []], .tup [.str "a"], .tup [.tup [.str "A"]], .int 0] : List D) ∨ ∃ lb, bad = .ref lb ∧ lb ≠ d ∧ lb ≠ la ∧ lstAt G lb = some (y.map enc)
def OddD (odd : D) : Prop := odd ∈ ([.int 0, .int 7, .int (-1), .bl true, .non, .str "1", .tup [.int 2]] : List D)
theorem BadD.ext {G G' : Gp} {d la : Addr} {y : Yrd} {bad : D} (h : BadD G d la y bad) (x : ExtD d la G G') : BadD G' d la y bad := by
  rcases h with h | ⟨lb, rfl, n1, n2, h⟩
  · exact .inl h
  · exact .inr ⟨lb, rfl, n1, n2, x.lst n1 n2 h⟩
theorem bad_okd : ∀ bad ∈ ([.non, .tup [.tup []], .tup [.str "a"], .tup [.tup [.str "A"]], .int 0] : List D), Okd 2 bad ∧ isYrdD bad = false ∧ szD bad ≤ 100 := by
  intro bad h
  simp only [List.mem_cons, List.not_mem_nil, or_false] at h
  rcases h with rfl | rfl | rfl | rfl | rfl
  · exact ⟨trivial, rfl, by rw [szD]; decide; intro l z; cases z⟩
  · exact ⟨(fun d hd => by rw [List.mem_singleton.mp hd]; intro e he; cases he), by decide +kernel, by simp [szD, szDs]⟩
  · exact ⟨fun d hd => by rw [List.mem_singleton.mp hd]; exact okd_str, by decide +kernel, by simp [szD, szDs]⟩
  · exact ⟨fun d hd => by rw [List.mem_singleton.mp hd]; intro e he; rw [List.mem_singleton.mp he]; exact okd_str, by decide +kernel, by simp [szD, szDs]⟩
  · exact ⟨trivial, rfl, by rw [szD]; decide; intro l z; cases z⟩
theorem lk2_okd {G : Gp} {bad : D} (h : bad ∈ ([.non, .tup [.tup []], .tup [.str "a"], .tup [.tup [.str "A"]], .int 0] : List D)) : Lk2 G bad := by
  simp only [List.mem_cons, List.not_mem_nil, or_false] at h
  rcases h with rfl | rfl | rfl | rfl | rfl
  · exact ⟨trivial, fun l z => by cases z⟩
  · exact ⟨trivial, fun l z d hd => by
      cases z
      rw [List.mem_singleton.mp hd]
      exact ⟨trivial, fun m z e he => by cases z; cases he⟩⟩
  · exact ⟨trivial, fun l z d hd => by
      cases z
      rw [List.mem_singleton.mp hd]
      exact ⟨trivial, fun m z e he => by cases z⟩⟩
  · exact ⟨trivial, fun l z d hd => by
      cases z
      rw [List.mem_singleton.mp hd]
      exact ⟨trivial, fun m z e he => by
        cases z
        rw [List.mem_singleton.mp he]
        exact ⟨trivial, fun z e => by cases e; exact sz_of (by decide)⟩⟩⟩
  · exact ⟨trivial, fun l z => by cases z⟩
theorem BadD.no {G : Gp} {d la : Addr} {y : Yrd} {bad : D} (h : BadD G d la y bad) : isYrdD bad = false ∧ Lk2 G bad := by
  rcases h with h | ⟨lb, rfl, n1, n2, h⟩
  · exact ⟨(bad_okd bad h).2.1, lk2_okd h⟩
  · exact ⟨rfl, by show (lstAt G lb).isSome = true; rw [h]; rfl, fun l z => by cases z⟩
theorem BadD.same {G : Gp} {d la : Addr} {y : Yrd} {bad : D} (h : BadD G d la y bad) (hy : y.flatten.length ≤ 100) (hl : y.length ≤ 100) : ∃ n, n ≤ 1000 ∧ SameN G n bad bad := by
  rcases h with h | ⟨lb, rfl, n1, n2, h⟩
  · obtain ⟨a, _, b⟩ := bad_okd bad h
    exact ⟨szD bad, by omega, same_okd 2 bad a⟩
  · have e : szDs (y.map enc) + 1 = szD (enc y) := by show _ = szD (.tup (y.map enc)); rw [szD]
    exact ⟨szDs (y.map enc) + 1, by rw [e, sz_yrd]; omega, .lst h h (same_okds 2 _ fun d hd => by
      obtain ⟨c, _, rfl⟩ := List.mem_map.mp hd
      exact okd_mono (Enc.okd c) (by decide))⟩
theorem odd_no {odd : D} (h : OddD odd) : isBetD 1 6 odd = false ∧ (∀ G, Lk1 G odd) ∧ Okd 1 odd ∧ szD odd ≤ 100 := by
  unfold OddD at h
  simp only [List.mem_cons, List.not_mem_nil, or_false] at h
  rcases h with rfl | rfl | rfl | rfl | rfl | rfl | rfl
  · exact ⟨by decide +kernel, fun _ => trivial, trivial, by rw [szD]; decide; intro l z; cases z⟩
  · exact ⟨by decide +kernel, fun _ => trivial, trivial, by rw [szD]; decide; intro l z; cases z⟩
  · exact ⟨by decide +kernel, fun _ => trivial, trivial, by rw [szD]; decide; intro l z; cases z⟩
  · exact ⟨by decide +kernel, fun _ => trivial, trivial, by rw [szD]; decide; intro l z; cases z⟩
  · exact ⟨by decide +kernel, fun _ => trivial, trivial, by rw [szD]; decide; intro l z; cases z⟩
  · exact ⟨by decide +kernel, fun _ => trivial, trivial, by rw [szD]; decide; intro l z; cases z⟩
  · exact ⟨by decide +kernel, fun _ => trivial, fun d hd => by rw [List.mem_singleton.mp hd]; exact okd_int, by simp [szD, szDs]⟩
section
variable {K : PySem.W.Frag} {C1 C2 PT a d la : Addr} {qT : Str} {G : Gp} {Q : DK} {Kx : Ev → Gp → Prop} {o0 o1 o2 o3 o4 o5 o6 o7 o8 o9 o10 o11 o12 o13 o14 o15 o16 : Option D}
theorem st9 {y : Yrd} (dk : Deck G d la) (h : ∀ bad odd G', BadD G' d la y bad → OddD odd → Deck G' d la → ExtD d la G G' →
      Kx [o0, some (.ref d), o2, some (enc y), o4, o5, o6, o7, o8, o9, o10, some bad, some odd, o13, o14, o15, o16] G') :
    r_law_9 spSame (spLike C1 C2) spPick (spJudge C1) spDraw spOwn spInCols spBoxes (spDeck K) PT qT (tk81 C1 C2) { nx := Kx, rt := Q } [o0, some (.ref d), o2, some (enc y), o4, o5, o6, o7, o8, o9, o10, o11, o12, o13, o14, o15, o16] G := by
  unfold r_law_9
  walk_at "rd"
  refine list_t fun lb hlb => ⟨sz_of (by decide), sz_of (by decide), sz_of (by decide), sz_of (by decide), sz_of (by decide), sz_of (by decide), fun p hp => ?_⟩
  have e2 : Ext G (up (up G lb (.lst (y.map enc))) p (.lst [.non, .ref lb, .tup [.tup []], .tup [.str "a"], .tup [.tup [.str "A"]], .int 0])) := (Ext.up hlb).put ((Ext.up hlb).fresh hp)
  obtain ⟨n1, n2⟩ := dk.far hlb
  obtain ⟨n3, n4⟩ := (dk.ext (Ext.up hlb)).far hp
  have hl2 : lstAt (up (up G lb (.lst (y.map enc))) p (.lst [.non, .ref lb, .tup [.tup []], .tup [.str "a"], .tup [.tup [.str "A"]], .int 0])) lb = some (y.map enc) := lstAt_lst (up_get up_same hp)
  obtain ⟨G2, hG2⟩ : ∃ g, g = up (up G lb (.lst (y.map enc))) p (.lst [.non, .ref lb, .tup [.tup []], .tup [.str "a"], .tup [.tup [.str "A"]], .int 0]) := ⟨_, rfl⟩
  have p2 : lstAt G2 p = some [.non, .ref lb, .tup [.tup []], .tup [.str "a"], .tup [.tup [.str "A"]], .int 0] := by rw [hG2]; exact lst_up
  rw [← hG2] at e2 hl2
  rw [show (up (up G lb (.lst (y.map enc))) p (.lst [.non, .ref lb, .tup [.tup []], .tup [.str "a"], .tup [.tup [.str "A"]], .int 0])) = G2 from hG2.symm]
  refine ⟨d, la, .ref p, _, rfl, .inr ⟨p, rfl, n3, n4, p2⟩, by simp, by simp, dk.ext e2, fun G3 bad hbad dk3 x3 => ?_⟩
  have hb : BadD G3 d la y bad := by
    simp only [List.mem_cons, List.not_mem_nil, or_false] at hbad
    rcases hbad with rfl | rfl | rfl | rfl | rfl | rfl
    · exact .inl (by simp)
    · exact .inr ⟨lb, rfl, n1, n2, x3.lst n1 n2 hl2⟩
    · exact .inl (by simp)
    · exact .inl (by simp)
    · exact .inl (by simp)
    · exact .inl (by simp)
  refine ⟨1, rfl, sz_of (by decide), sz_of (by decide), fun p3 hp3 => ?_⟩
  obtain ⟨m3, m4⟩ := dk3.far hp3
  refine ⟨d, la, .ref p3, _, rfl, .inr ⟨p3, rfl, m3, m4, lst_up⟩, by simp, by simp, dk3.ext (Ext.up hp3), fun G4 odd hodd dk4 x4 => ?_⟩
  have x34 : ExtD d la G3 G4 := (Ext.up hp3).d.trans x4
  refine ⟨sz_of (by decide), _, rfl, rfl, _, _, rfl, _, _, rfl, rfl, ?_⟩
  exact h bad odd G4 (hb.ext x34) hodd dk4 (e2.d.trans (x3.trans x34))
theorem st10 {y : Yrd} {bad odd : D} (hb : BadD G d la y bad) (ho : OddD odd) (dk : Deck G d la) (hT : OneTb PT qT G) (h : ∀ p G', Ext G G' → G p = none → G' p = some (.lst [.tup [.str "yard", bad, .bl true]]) →
      Kx [o0, o1, o2, o3, o4, o5, some (.ref p), o7, o8, o9, o10, some bad, some odd, o13, o14, o15, o16] G') :
    r_law_10 spSame (spLike C1 C2) spPick (spJudge C1) spDraw spOwn spInCols spBoxes (spDeck K) PT qT (tk81 C1 C2) { nx := Kx, rt := Q } [o0, o1, o2, o3, o4, o5, o6, o7, o8, o9, o10, some bad, some odd, o13, o14, o15, o16] G := by
  unfold r_law_10
  walk_at "rd"
  obtain ⟨b1, b2⟩ := hb.no
  obtain ⟨_, a2, _, _⟩ := odd_no ho
  refine ⟨hT, bad, odd, rfl, b2, a2 G, .inl ⟨b1, fun G' e' => ⟨"yard", .inl ⟨rfl, rfl⟩, sz_of (by decide), fun p hp => ?_⟩⟩⟩
  exact h p _ (e'.put (e'.fresh hp)) (e'.fresh hp) up_same
theorem st11 {y : Yrd} {bs : Col} {c : Nat} {bad odd : D} {p : Addr} (hl : bs.length ≤ 6) (hy : IsYd bs c y) (nm : ∀ k ∈ bs, Named k) (ho : OddD odd) (hT : OneTb PT qT G) (hp : G p = some (.lst [.tup [.str "yard", bad, .bl true]])) (h : ∀ G', Ext G G' →
      Kx [o0, o1, o2, some (enc y), o4, o5, some (.ref p), o7, o8, o9, o10, some bad, some odd, o13, o14, o15, o16] (up G' p (.lst [.tup [.str "yard", bad, .bl true], .tup [.str "many", odd, .bl true]]))) :
    r_law_11 spSame (spLike C1 C2) spPick (spJudge C1) spDraw spOwn spInCols spBoxes (spDeck K) PT qT (tk81 C1 C2) { nx := Kx, rt := Q } [o0, o1, o2, some (enc y), o4, o5, some (.ref p), o7, o8, o9, o10, some bad, some odd, o13, o14, o15, o16] G := by
  unfold r_law_11
  walk_at "rd"
  obtain ⟨a1, a2, _, _⟩ := odd_no ho
  refine ⟨some_lst (lstAt_lst hp), hT, enc y, odd, rfl, lk2_yrd G y fun k hk => Nat.le_trans (named_ok (nm k (hy.kinds.mem_iff.mp hk))).2.1 (by decide), a2 G, .inr (.inl ⟨yrd_ok hy nm hl, a1, fun G' e' => ⟨"many", .inr ⟨rfl, rfl⟩, ?_⟩⟩)⟩
  exact app_m (e' _ _ hp) (by show 1 < _; decide) (h G' e')
theorem st12 {y : Yrd} {bs : Col} {c : Nat} {bad odd : D} {p : Addr} (hl : bs.length ≤ 6) (hy : IsYd bs c y) (hb : BadD G d la y bad) (ho : OddD odd) (hp : G p = some (.lst [.tup [.str "yard", bad, .bl true], .tup [.str "many", odd, .bl true]])) (h : ∀ G', Q (.bl true) G') :
    r_law_12 spSame (spLike C1 C2) spPick (spJudge C1) spDraw spOwn spInCols spBoxes (spDeck K) PT qT (tk81 C1 C2) { nx := Kx, rt := Q } [o0, o1, o2, some (enc y), o4, o5, some (.ref p), o7, o8, o9, o10, some bad, some odd, o13, o14, o15, o16] G := by
  unfold r_law_12
  walk_at "rd"
  refine ⟨sz_of (by decide), sz_of (by decide), sz_of (by decide), fun v hv => ?_⟩
  have e : Ext G (up G v (.lst [.tup [.str "yard", bad, .bl true], .tup [.str "many", odd, .bl true]])) := Ext.up hv
  have l1 := yrd_len hy.ne
  have l2 := hy.kinds.length_eq
  obtain ⟨n, hn, hs⟩ := (hb.ext (e.d (d := d) (la := la))).same (by omega) (by omega)
  obtain ⟨_, _, a3, a4⟩ := odd_no ho
  have ho2 : SameN (up G v (.lst [.tup [.str "yard", bad, .bl true], .tup [.str "many", odd, .bl true]])) (szD odd) odd odd := same_okd 1 odd a3
  refine ⟨.ref p, .ref v, _, rfl, ?_, .lst (lstAt_lst (e _ _ hp)) lst_up (.cons (.tup (.cons .str (.cons hs (.cons .bl .nil)))) (.cons (.tup (.cons .str (.cons ho2 (.cons .bl .nil)))) .nil)), fun G' _ => h G'⟩
  omega
end
theorem k_law (K : PySem.W.Frag) (C1 C2 PT : Addr) (qT : Str) (a : Addr) (ns : List Int) (G : Gp) (Q : DK) (hn : ns.length ≤ 63) (hs : lstAt G a = some (ns.map D.int) ∨ KList K a (ns.map V.int)) (hT : OneTb PT qT G) (q : ∀ G', Q (.bl true) G') :
    r_law spSame (spLike C1 C2) spPick (spJudge C1) spDraw spOwn spInCols spBoxes (spDeck K) PT qT (tk81 C1 C2) { nx := fun _ G' => Q .non G', rt := Q } (startD ["script", "deck", "many", "yard", "told", "turn", "rows", "boxes", "most", "due", "was", "bad", "odd", "one", "other", "near", "far"] [.ref a]) G := by
  unfold r_law
  simp only [dSeq]
  show r_law_1 _ _ _ _ _ _ _ _ _ _ _ _ _ [some (.ref a), none, none, none, none, none, none, none, none, none, none, none, none, none, none, none, none] G
  unfold r_law_1
  simp only [dAsg, dCall, dCons, dNil, dVar_iff, dgName, List.getElem?_cons_zero, List.set_cons_succ, List.set_cons_zero]
  refine ⟨a, ns, rfl, hn, hs, fun G1 d la e1 gd gl dk1 => ?_⟩
  have pd : PT ≠ d := fun z => by rw [← z, hT.1] at gd; cases gd
  have pl : PT ≠ la := fun z => by rw [← z, hT.1] at gl; cases gl
  have T1 := tb_ext hT (e1.d (d := d) (la := la)) pd pl
  refine st2 dk1 fun n G2 n1 n6 dk2 x2 => ?_
  refine st3 dk2 n1 n6 fun b bs m G3 hbl nm m1 m6 bd bl hb dk3 x3 => ?_
  have hl6 : bs.length ≤ 6 := by omega
  have hne : bs ≠ [] := fun z => by rw [z] at hbl; simp at hbl; omega
  refine st4 (n := n) (m := m) dk3 hl6 bd bl hb fun y c G4 hy dk4 x4 => ?_
  refine st5 hl6 hne (x4.lst bd bl hb) hy nm fun cls G5 hc e5 => ?_
  refine st6 (dk4.ext e5) hl6 hne m1 m6 hy nm hc fun G6 dk6 x6 => ?_
  refine st7 hl6 hy nm hc fun G7 e7 => ?_
  refine st8 (dk6.ext e7) hl6 hne m1 nm hc fun G8 o5 o13 o14 o15 o16 dk8 x8 => ?_
  refine st9 dk8 fun bad odd G9 hbad hodd dk9 x9 => ?_
  have x19 : ExtD d la G1 G9 := x2.trans (x3.trans (x4.trans (e5.d.trans (x6.trans (e7.d.trans (x8.trans x9))))))
  have T9 := tb_ext T1 x19 pd pl
  refine st10 hbad hodd dk9 T9 fun p G10 e10 gp h10 => ?_
  have T10 := tb_ext T9 (e10.d (d := d) (la := la)) pd pl
  refine st11 hl6 hy nm hodd T10 h10 fun G11 e11 => ?_
  have hb12 : BadD (up G11 p (.lst [.tup [.str "yard", bad, .bl true], .tup [.str "many", odd, .bl true]])) d la y bad := by
    rcases hbad with h | ⟨lb, rfl, n1, n2, h⟩
    · exact .inl h
    · refine .inr ⟨lb, rfl, n1, n2, ?_⟩
      have np : lb ≠ p := fun z => by
        unfold lstAt at h
        rw [z, gp] at h
        cases h
      have h2 := e11.lst (e10.lst h)
      unfold lstAt at h2 ⊢
      rw [up_ne np]
      exact h2
  exact st12 hl6 hy hb12 hodd up_same q
end W81
end
section
set_option Elab.async false
set_option linter.all false
set_option maxRecDepth 100000
set_option maxHeartbeats 4000000
/-! The head's facts: the defs, the names, the own exceptions with their __init__, the law's code object and its table. -/
namespace DL
open PySem PySem.Spec PyProof.Rows L2 LamX He
/-! ### the part of the heap that is looked at -/
def asY (g : Addr → Option Obj) : Nat → List Addr
  | 0 => [mainGlobals, PySem.cStatics]
  | n + 1 => growD g (asY g n)
def lawCo (K : PySem.W.Frag) : Addr := match K.lookup (ga K "law") with
  | some ⟨_, _, .func fd, _⟩ => (match fd.code with
    | .ref c => c
    | _ => 0)
  | _ => 0
def tbAt (K : PySem.W.Frag) (c : Addr) : Addr := match K.lookup c with
  | some ⟨_, _, .fields vs, _⟩ => (match (vs[11]? : Option Value) with
    | some (.ref P) => P
    | _ => 0)
  | _ => 0
def less (K : PySem.W.Frag) (b : Addr) : PySem.W.Frag := K.filter fun p => !(p.1 == b)
theorem less_at {b : Addr} : ∀ (K : PySem.W.Frag), (less K b).lookup b = none
  | [] => rfl
  | p :: K => by
    unfold less
    rw [List.filter_cons]
    cases e : (p.1 == b) with
    | true => rw [if_neg (by simp)]; exact less_at K
    | false =>
      rw [if_pos (by simp)]
      have e2 : (b == p.1) = false := by
        rw [beq_eq_false_iff_ne] at e ⊢
        exact Ne.symm e
      show (match b == p.1 with | true => some p.2 | false => (less K b).lookup b) = none
      rw [e2]
      exact less_at K
theorem less_in {b a : Addr} {o : Obj} : ∀ (K : PySem.W.Frag), (less K b).lookup a = some o → K.lookup a = some o
  | [], h => by cases h
  | p :: K, h => by
    have h0 : ((p :: K).filter fun p => !(p.1 == b)).lookup a = some o := h
    rw [List.filter_cons] at h0
    show (match a == p.1 with | true => some p.2 | false => K.lookup a) = some o
    cases e : (p.1 == b) with
    | true =>
      rw [e, if_neg (by simp)] at h0
      cases f : (a == p.1) with
      | true =>
        have h1 := beq_iff_eq.mp e
        have h2 := beq_iff_eq.mp f
        subst h2
        subst h1
        rw [show (K.filter fun p_1 => !(p_1.1 == p.1)).lookup p.1 = none from less_at K] at h0
        cases h0
      | false => exact less_in K h0
    | false =>
      rw [e, if_pos (by simp)] at h0
      have h1 : (match a == p.1 with | true => some p.2 | false => (less K b).lookup a) = some o := h0
      cases f : (a == p.1) with
      | true => rw [f] at h1; exact h1
      | false => rw [f] at h1; exact less_in K h1
theorem less_frag {K : PySem.W.Frag} {b : Addr} {h : Heap} (x : K.In h) : (less K b).In h := fun a o e => x a o (less_in K e)
/-! ### the law's code object -/
def tabB (o : Obj) : Bool := match o with
  | ⟨.none, none, .fields vs, sl⟩ => decide (vs.toList = []) && decide (sl.toList = [])
  | _ => false
theorem tabB_ok {o : Obj} (h : tabB o = true) : o = tabO := by
  unfold tabB at h
  split at h
  · rename_i vs sl
    obtain ⟨h1, h2⟩ := ba h
    have e1 : vs = #[] := by
      have := of_decide_eq_true h1
      exact Array.toList_inj.mp (by simpa using this)
    have e2 : sl = #[] := by
      have := of_decide_eq_true h2
      exact Array.toList_inj.mp (by simpa using this)
    subst e1
    subst e2
    rfl
  · cases h
def isStrV : Value → Bool
  | .str _ _ => true
  | _ => false
def isIntV : Value → Bool
  | .int _ _ => true
  | _ => false
def isBoolV : Value → Bool
  | .bool _ => true
  | _ => false
def codeB (K : PySem.W.Frag) (c P : Addr) : Bool := (match K.lookup c with
  | some ⟨.type n, _, .fields vs, _⟩ => decide (n = "code") && (decide (vs[11]? = some (.ref P)) && (decide (vs.getD 11 .none = .ref P) && (isStrV (vs.getD 18 .none) && (isIntV (vs.getD 7 .none) && (isBoolV (vs.getD 9 .none) && isIntV (vs.getD 10 .none))))))
  | _ => false) && (decide (c ≠ P) && (match K.lookup P with
  | some o => tabB o
  | none => false))
theorem codeB_ok {K : PySem.W.Frag} {c P : Addr} {h : Heap} (x : K.In h) (e : codeB K c P = true) : PySem.W.CodeHd h c P ∧ h.get? P = some tabO := by
  unfold codeB at e
  obtain ⟨e1, e2⟩ := ba e
  obtain ⟨e2, e3⟩ := ba e2
  constructor
  · cases q : K.lookup c with
    | none => rw [q] at e1; cases e1
    | some o =>
      rw [q] at e1
      obtain ⟨oc, od, dt, osl⟩ := o
      cases oc with
      | type n =>
        cases dt with
        | fields vs =>
          obtain ⟨k1, k⟩ := ba e1
          obtain ⟨k2, k⟩ := ba k
          obtain ⟨k3, k⟩ := ba k
          obtain ⟨k4, k⟩ := ba k
          obtain ⟨k5, k⟩ := ba k
          obtain ⟨k6, k7⟩ := ba k
          have s4 : ∃ file tf, vs.getD 18 .none = .str file tf := by
            generalize vs.getD 18 .none = v at k4
            cases v with
            | str file tf => exact ⟨file, tf, rfl⟩
            | _ => cases k4
          have s5 : ∃ fl tg, vs.getD 7 .none = .int fl tg := by
            generalize vs.getD 7 .none = v at k5
            cases v with
            | int fl tg => exact ⟨fl, tg, rfl⟩
            | _ => cases k5
          have s6 : ∃ b, vs.getD 9 .none = .bool b := by
            generalize vs.getD 9 .none = v at k6
            cases v with
            | bool b => exact ⟨b, rfl⟩
            | _ => cases k6
          have s7 : ∃ fl tg, vs.getD 10 .none = .int fl tg := by
            generalize vs.getD 10 .none = v at k7
            cases v with
            | int fl tg => exact ⟨fl, tg, rfl⟩
            | _ => cases k7
          obtain ⟨file, tf, s4⟩ := s4
          obtain ⟨fl, tg, s5⟩ := s5
          obtain ⟨b, s6⟩ := s6
          obtain ⟨tx, tt, s7⟩ := s7
          exact ⟨_, vs, file, tf, fl, tg, b, tx, tt, x _ _ q, congrArg Value.type (of_decide_eq_true k1), rfl, of_decide_eq_true k2, of_decide_eq_true k3, s4, s5, s6, s7, of_decide_eq_true e2⟩
        | _ => cases e1
      | _ => cases dt <;> cases e1
  · cases q : K.lookup P with
    | none => rw [q] at e3; cases e3
    | some o =>
      rw [q] at e3
      rw [x _ _ q, tabB_ok e3]
/-! ### the own base class's __init__ -/
abbrev IniW := Option (Str × Str × Arguments × FuncBody × Scope × Addr × List Str × Addr)
def iniW (K : PySem.W.Frag) (f : Addr) : IniW := match K.lookup f with
  | some ⟨_, _, .func fd, _⟩ => some (fd.name, fd.qualname, fd.params, fd.body, fd.scope, fd.globals, fd.closure.map (·.1), fd.builtins)
  | _ => none
/-- code, cell, file -/
def iniB (K : PySem.W.Frag) (D f : Addr) (qual file : Str) : Bool := match K.lookup f with
  | some ⟨_, _, .func fd, _⟩ => PySem.W.codeIn K fd.code qual && ((match fd.defaults with
      | .none => true
      | _ => false) && ((match fd.code with
      | .ref c => (match K.lookup c with
        | some ⟨_, _, .fields vs, _⟩ => (match (vs[2]? : Option Value) with
          | some (.str z _) => file == z
          | _ => false)
        | _ => false)
      | _ => false) && (match fd.closure with
      | [q] => (match K.lookup q.2 with
        | some ⟨_, _, .cell (some (.ref E)), _⟩ => decide (E = D)
        | _ => false)
      | _ => false)))
  | _ => false
/-- what is to be said of the text of such an __init__ -/
structure IniText (qual : Str) (params : Arguments) (scope : Scope) (p0 p1 p2 p3 p4 p5 p6 p7 p8 p9 : Pos) : Prop where
  bind : ∀ (kV doc pm : Value) (an : Option Addr) (cdv ct : Value) (cc : Addr) (us : List Value), us.length = 2 → bindArgs (PySem.W.ksFn "__init__" qual params [.Expr (.Call (.Attribute (.Call (.Name "super" p0) [] [] p1) "__init__" p2) [.Name "thing" p3] [] p4) p5, .Assign [.Attribute (.Name "self" p6) "thing" p7] (.Name "thing" p8) p9] scope .none kV doc pm an cdv ct cc) ⟨us, []⟩ = pure ((["self", "thing"] : List Str).zip us)
  ar : ∃ ar : Arg, (params.posonlyargs ++ params.args).head? = some ar ∧ ar.arg = "self"
  sup : scope.names.lookup ("super" : Str) = some .globalImplicit
  cls : scope.names.lookup ("__class__" : Str) = some .free
  self : scope.names.lookup ("self" : Str) = some .local
  thing : scope.names.lookup ("thing" : Str) = some .local
  kind : scope.kind = .function
  cell : ∀ x ∈ scope.names, x.2 ≠ .cell
  co : scope.isCoroutine = false
  gen : scope.isGenerator = false
  ev : ∃ pl : Sem Bool, ∀ (L f cda cc : Addr), eval (.Call (.Attribute (.Call (.Name "super" p0) [] [] p1) "__init__" p2) [.Name "thing" p3] [] p4) (PySem.W.ksEnv qual scope L f (.ref cda) cc) = (do
      let ov ← attributeBase (.Call (.Name "super" p0) [] [] p1) "__init__" (PySem.W.ksEnv qual scope L f (.ref cda) cc) (eval (.Call (.Name "super" p0) [] [] p1) (PySem.W.ksEnv qual scope L f (.ref cda) cc))
      standAt p2.atName
      let (f1, first) ← holding [ov] (getMethod ov "__init__" pl)
      callWith p4 f1 first (backTo p4 (starEach [.Name "thing" p3] (PySem.W.ksEnv qual scope L f (.ref cda) cc))) [])
  st : ∀ (L f cda cc : Addr), interactive (PySem.W.ksEnv qual scope L f (.ref cda) cc) = false ∧ swapsWith (.Call (.Attribute (.Call (.Name "super" p0) [] [] p1) "__init__" p2) [.Name "thing" p3] [] p4) none p5.line (PySem.W.ksEnv qual scope L f (.ref cda) cc) = pure false ∧
      starEach [.Name "thing" p3] (PySem.W.ksEnv qual scope L f (.ref cda) cc) = [(false, eval (.Name "thing" p3) (PySem.W.ksEnv qual scope L f (.ref cda) cc))] ∧
      swapsWith (.Name "thing" p8) (some (.Attribute (.Name "self" p6) "thing" p7)) p9.line (PySem.W.ksEnv qual scope L f (.ref cda) cc) = pure false
def iniVal (qual : Str) (params : Arguments) (body : List Stmt) (scope : Scope) : IniW := some ("__init__", qual, params, .stmts body, scope, mainGlobals, ["__class__"], builtinsNs)
def yiB (K : PySem.W.Frag) (D f : Addr) : Bool := (PySem.W.clsIn K D).isSome && (decide (PySem.W.typeIn K (.ref f) = some (.type "function")) && decide (PySem.W.nsIn K PySem.cStatics "thirdparty.any" = some none))
theorem yinit_of {P : Program} {K : PySem.W.Frag} {D f : Addr} {qual file : Str} {params : Arguments} {scope : Scope} {p0 p1 p2 p3 p4 p5 p6 p7 p8 p9 : Pos} (T : IniText qual params scope p0 p1 p2 p3 p4 p5 p6 p7 p8 p9)
    (e : iniW K f = iniVal qual params [.Expr (.Call (.Attribute (.Call (.Name "super" p0) [] [] p1) "__init__" p2) [.Name "thing" p3] [] p4) p5, .Assign [.Attribute (.Name "self" p6) "thing" p7] (.Name "thing" p8) p9] scope)
    (b : iniB K D f qual file = true) (y : yiB K D f = true) (hf : P.main.file = file) (hs : (P.main.scope.names.lookup ("super" : Str)).isSome = false) : YInit P K D f := by
  obtain ⟨y1, y2⟩ := ba y
  obtain ⟨y2, y3⟩ := ba y2
  unfold iniW at e
  unfold iniB at b
  cases q : K.lookup f with
  | none => rw [q] at e; cases e
  | some o =>
    obtain ⟨oc, od, dt, osl⟩ := o
    rw [q] at e b
    cases dt with
    | func fd =>
      obtain ⟨n1, n2, n3, n4, n5, n6, n7, n8, n9, n10, n11, n12, n13, n14, n15⟩ := fd
      have e2 : (some (n1, n2, n3, n4, n5, n6, n7.map (·.1), n15) : IniW) = _ := e
      unfold iniVal at e2
      simp only [Option.some.injEq, Prod.mk.injEq] at e2
      obtain ⟨h1, h2, h3, h4, h5, h6, h7, h8⟩ := e2
      subst h1 h2 h3 h4 h5 h6 h8
      obtain ⟨b1, b⟩ := ba b
      obtain ⟨b2, b⟩ := ba b
      obtain ⟨b3, b4⟩ := ba b
      have z2 : n8 = .none := by
        cases n8 with
        | none => rfl
        | _ => cases b2
      subst z2
      cases n13 with
      | ref cda =>
        have b3' : (match K.lookup cda with
          | some ⟨_, _, .fields vs, _⟩ => (match (vs[2]? : Option Value) with
            | some (.str z _) => file == z
            | _ => false)
          | _ => false) = true := b3
        cases q2 : K.lookup cda with
        | none => rw [q2] at b3'; cases b3'
        | some o2 =>
          obtain ⟨oc2, od2, dt2, osl2⟩ := o2
          rw [q2] at b3'
          cases dt2 with
          | fields vs =>
            have b5 : (match (vs[2]? : Option Value) with
              | some (.str z _) => file == z
              | _ => false) = true := b3'
            cases q3 : vs[2]? with
            | none => rw [q3] at b5; cases b5
            | some v =>
              rw [q3] at b5
              cases v with
              | str z tf =>
                cases n7 with
                | nil => cases h7
                | cons c r =>
                  obtain ⟨cn, cc⟩ := c
                  cases r with
                  | cons c2 r2 => cases h7
                  | nil =>
                    have hcn : cn = "__class__" := by
                      have : [cn] = ([("__class__" : Str)] : List Str) := h7
                      exact (List.cons.inj this).1
                    subst hcn
                    have b6 : (match K.lookup cc with
                      | some ⟨_, _, .cell (some (.ref E)), _⟩ => decide (E = D)
                      | _ => false) = true := b4
                    cases q4 : K.lookup cc with
                    | none => rw [q4] at b6; cases b6
                    | some o4 =>
                      obtain ⟨oc4, od4, dt4, osl4⟩ := o4
                      rw [q4] at b6
                      cases dt4 with
                      | cell u =>
                        cases u with
                        | none => cases b6
                        | some u =>
                          cases u with
                          | ref E =>
                            have hE : E = D := of_decide_eq_true b6
                            subst hE
                            obtain ⟨ar, ha1, ha2⟩ := T.ar
                            obtain ⟨pl, hpl⟩ := T.ev
                            refine ⟨⟨oc, oc2, oc4, od, od2, od4, osl, osl2, osl4, n2, n3, n5, .none, n9, n10, n11, n14, n12, cda, cc, vs, z, tf, p0, p1, p2, p3, p4, p5, p6, p7, p8, p9, ar, q, b1, q2, q3, by rw [hf]; exact b5, q4, fun us hu => T.bind _ _ _ _ _ _ _ us hu, ha1, ha2, T.sup, T.cls, T.self, T.thing, T.kind, T.cell, T.co, T.gen, ⟨pl, fun L f => hpl L f cda cc⟩, fun L f => T.st L f cda cc⟩, y1, of_decide_eq_true y2, hs, of_decide_eq_true y3⟩
                          | _ => cases b6
                      | _ => cases b6
              | _ => cases b5
          | _ => cases b3'
      | _ => cases b3
    | _ => cases b
end DL
end
section
set_option Elab.async false
set_option linter.all false
set_option maxRecDepth 100000
set_option maxHeartbeats 4000000
/-! The hook over these facts; the law's end over them. -/
namespace DL
open PySem PySem.Spec PyProof.Rows L2 LamX He
def ycB (K : PySem.W.Frag) (D fI C : Addr) : Bool := PySem.W.excInitIn K C ESX.exTail "Exception.__new__" && (PySem.W.excOver K C ESX.exTail && (eqO (PySem.W.findIn K (.ref C) "__init__") (some (some (.ref fI))) && (eqO (PySem.W.findIn K (.ref C) "__setattr__") (some (some (.builtin "object.__setattr__"))) && (eqO (PySem.W.takerIn K C "thing") (some none) &&
  (PySem.W.hasDictIn K C && (decide (PySem.W.subIn K (.ref C) (.type "BaseException") = some true) && (decide (PySem.W.subIn K (.ref C) (.type "Exception") = some true) && (decide (PySem.W.typeIn K (.ref C) = some (.type "type")) && (PySem.W.keepIn K (.ref C) && (decide (PySem.W.mroIn K C (.ref D) = some true) && eqO (PySem.W.ks_superIn K C D "__init__") (some (some (.builtin "Exception.__init__")))))))))))))
theorem ycB_ok {K : PySem.W.Frag} {D fI C : Addr} (h : ycB K D fI C = true) : YC K D fI C := by
  obtain ⟨h1, h⟩ := ba h
  obtain ⟨h2, h⟩ := ba h
  obtain ⟨h3, h⟩ := ba h
  obtain ⟨h4, h⟩ := ba h
  obtain ⟨h5, h⟩ := ba h
  obtain ⟨h6, h⟩ := ba h
  obtain ⟨h7, h⟩ := ba h
  obtain ⟨h8, h⟩ := ba h
  obtain ⟨h9, h⟩ := ba h
  obtain ⟨h10, h⟩ := ba h
  obtain ⟨h11, h12⟩ := ba h
  exact ⟨h1, h2, eqO_ok h3, eqO_ok h4, eqO_ok h5, h6, of_decide_eq_true h7, of_decide_eq_true h8, of_decide_eq_true h9, h10, of_decide_eq_true h11, eqO_ok h12⟩
def hdB (K : PySem.W.Frag) (Y C : Addr) : Bool := xfB K C && (eqO (PySem.W.findIn K (.ref C) "thing") (some none) && (eqO (PySem.W.findIn K (.ref C) "__class__") (some (some (.builtin "object.__class__"))) && (decide (PySem.W.specialIn K (.builtin "object.__class__") "__get__" = some (some (.builtin "getset_descriptor.__get__"))) &&
  (decide (PySem.W.takesIn K (.builtin "object.__class__") = some true) && (decide (PySem.W.mroIn K C (.type "object") = some true) && decide (PySem.W.kitOne K (.ref C) (.ref Y) = some true))))))
theorem hdB_ok {K : PySem.W.Frag} {Y C : Addr} (h : hdB K Y C = true) : HdC K Y C := by
  obtain ⟨h1, h⟩ := ba h
  obtain ⟨h2, h⟩ := ba h
  obtain ⟨h3, h⟩ := ba h
  obtain ⟨h4, h⟩ := ba h
  obtain ⟨h5, h⟩ := ba h
  obtain ⟨h6, h7⟩ := ba h
  have x := xfB_ok h1
  exact ⟨x, eqO_ok h2, ⟨x.ga, x.gg, x.exC, x.hdC, eqO_ok h3, of_decide_eq_true h4, of_decide_eq_true h5, of_decide_eq_true h6⟩, of_decide_eq_true h7⟩
/-- what is asked of a head -/
structure HeadC where
  fa : List Fa
  fn : List DefD
  Y : Str
  qual : Str
  file : Str
  excs : List Str
  tups : List (Str × List Str)
  ini : IniW
/-- the part without the table -/
def kOf (K1 : PySem.W.Frag) : PySem.W.Frag := less K1 (tbAt K1 (lawCo K1))
def HeadC.base (c : HeadC) (K : PySem.W.Frag) : Addr := ga K c.Y
def HeadC.init (c : HeadC) (K : PySem.W.Frag) : Addr := ma K (ga K c.Y) "__init__"
def HeadC.chk (c : HeadC) (K1 : PySem.W.Frag) : Bool := codeB K1 (lawCo K1) (tbAt K1 (lawCo K1)) && (decide (lawCo (kOf K1) = lawCo K1 ∧ lawCo K1 ≠ 0) && ((c.fa.all fun f => f.ok (kOf K1)) && ((c.fn.all fun d => d.ok (kOf K1)) && (iniB (kOf K1) (c.base (kOf K1)) (c.init (kOf K1)) c.qual c.file && (yiB (kOf K1) (c.base (kOf K1)) (c.init (kOf K1)) &&
  ((c.excs.all fun x => ycB (kOf K1) (c.base (kOf K1)) (c.init (kOf K1)) (ga (kOf K1) x) && hdB (kOf K1) (c.base (kOf K1)) (ga (kOf K1) x)) && c.tups.all fun t => tupB (kOf K1) t.1 (t.2.map Dv.str)))))))
abbrev AlY : Type := Bool × List FnW × IniW
def HeadC.obs (c : HeadC) (K1 : PySem.W.Frag) : AlY := (c.chk K1, c.fn.map fun d => fnW (kOf K1) d.at_, iniW (kOf K1) (c.init (kOf K1)))
def HeadC.val (c : HeadC) : AlY := (true, c.fn.map DefD.val, c.ini)
def HeadC.Says (c : HeadC) (K1 : PySem.W.Frag) : Prop := c.obs K1 = c.val
def HeadC.obsG (c : HeadC) (n : Nat) (g : Addr → Option Obj) : AlY := c.obs (frG g (asY g n))
def HeadC.hook (c : HeadC) (n : Nat) : PySem.W.Hook where
  α := AlY
  obs := fun s => c.obsG n s.heap.get?
  val := fun _ => c.val
  says := fun _ h => ∃ K1 : PySem.W.Frag, K1.In h ∧ c.Says K1
  of := fun _ _ e => ⟨_, frG_in, e⟩
  keeps := fun _ _ _ ⟨K, hK, c⟩ k => ⟨K, PySem.W.Frag.In.keeps hK k, c⟩
theorem HeadC.obsG_eq {c : HeadC} {n : Nat} {g : Addr → Option Obj} {s : Shared} (h : ∀ a, g a = s.heap.get? a) : c.obsG n g = (c.hook n).obs s := by
  have e : g = s.heap.get? := funext h
  rw [e] <;> rfl
section
variable {c : HeadC} {K1 : PySem.W.Frag}
structure HeadC.Facts (c : HeadC) (K1 : PySem.W.Frag) : Prop where
  code : codeB K1 (lawCo K1) (tbAt K1 (lawCo K1)) = true
  co : lawCo (kOf K1) = lawCo K1 ∧ lawCo K1 ≠ 0
  fa : (c.fa.all fun f => f.ok (kOf K1)) = true
  fn : (c.fn.all fun d => d.ok (kOf K1)) = true
  fnW : c.fn.map (fun d => fnW (kOf K1) d.at_) = c.fn.map DefD.val
  ib : iniB (kOf K1) (c.base (kOf K1)) (c.init (kOf K1)) c.qual c.file = true
  yb : yiB (kOf K1) (c.base (kOf K1)) (c.init (kOf K1)) = true
  ex : (c.excs.all fun x => ycB (kOf K1) (c.base (kOf K1)) (c.init (kOf K1)) (ga (kOf K1) x) && hdB (kOf K1) (c.base (kOf K1)) (ga (kOf K1) x)) = true
  tu : (c.tups.all fun t => tupB (kOf K1) t.1 (t.2.map Dv.str)) = true
  iw : iniW (kOf K1) (c.init (kOf K1)) = c.ini
theorem HeadC.Says.facts (h : c.Says K1) : c.Facts K1 := by
  have h1 : c.chk K1 = true := congrArg (fun z : AlY => z.1) h
  have h2 : c.fn.map (fun d => He.fnW (kOf K1) d.at_) = c.fn.map DefD.val := congrArg (fun z : AlY => z.2.1) h
  have h3 : iniW (kOf K1) (c.init (kOf K1)) = c.ini := congrArg (fun z : AlY => z.2.2) h
  obtain ⟨a1, a⟩ := ba h1
  obtain ⟨a2, a⟩ := ba a
  obtain ⟨a3, a⟩ := ba a
  obtain ⟨a4, a⟩ := ba a
  obtain ⟨a5, a⟩ := ba a
  obtain ⟨a6, a⟩ := ba a
  obtain ⟨a7, a8⟩ := ba a
  exact ⟨a1, of_decide_eq_true a2, a3, a4, h2, a5, a6, a7, a8, h3⟩
theorem HeadC.Facts.fact (h : c.Facts K1) (i : Nat) {f : Fa} (e : c.fa[i]? = some f := by rfl) : f.ok (kOf K1) = true := List.all_eq_true.mp h.fa f (List.mem_of_getElem? e)
theorem HeadC.Facts.def_ (h : c.Facts K1) (i : Nat) {d : DefD} (e : c.fn[i]? = some d := by rfl) : ∃ fd, FunD (kOf K1) d.name d.qual d.params d.body d.scope (d.dvs (kOf K1)) (d.kws (kOf K1)) (fAd (kOf K1) d.at_) fd := by
  have e2 : (c.fn.map fun d => He.fnW (kOf K1) d.at_)[i]? = (c.fn.map DefD.val)[i]? := by rw [h.fnW]
  rw [List.getElem?_map, List.getElem?_map, e] at e2
  exact DefD.funD (Option.some.inj e2) (List.all_eq_true.mp h.fn d (List.mem_of_getElem? e))
theorem HeadC.Facts.exc (h : c.Facts K1) (i : Nat) {x : Str} (e : c.excs[i]? = some x := by rfl) : YC (kOf K1) (c.base (kOf K1)) (c.init (kOf K1)) (ga (kOf K1) x) ∧ HdC (kOf K1) (c.base (kOf K1)) (ga (kOf K1) x) := by
  obtain ⟨a, b⟩ := ba (List.all_eq_true.mp h.ex x (List.mem_of_getElem? e))
  exact ⟨ycB_ok a, hdB_ok b⟩
theorem HeadC.Facts.tup (h : c.Facts K1) (i : Nat) {x : Str} {zs : List Str} (e : c.tups[i]? = some (x, zs) := by rfl) (H : Hp) : SqT (kOf K1) H (ga (kOf K1) x) (zs.map V.str) := by
  have := tupB_ok (List.all_eq_true.mp h.tu (x, zs) (List.mem_of_getElem? e)) H
  rw [List.map_map] at this
  exact this
end
/-! ### the end -/
theorem walk_endE {l : PySem.W.OpenLaw} {n : Nat} {q : Program} {loose : List Str} {XP : (Str → Option Value) → Heap → Prop} {YP : World → Heap → Prop} {d : DefRec} {x : Str}
    (hn : l.most = some n) (hn2 : n ≤ sizeLine) (hdf : d.params.defaults = [])
    (F : ∀ (w : World) (mg : Str → Option Value) (fa : Addr) (h : Heap), YP w h → h.Ns mainGlobals mg → mg d.name = some (.ref fa) →
      ∃ (K : PySem.W.Frag) (fd : FuncData) (co tb : Addr) (sp : Sp), K.In h ∧ h.get? tb = some tabO ∧ K.lookup tb = none ∧ PySem.W.CodeHd h co tb ∧ (∀ (s : Shared) (u : Value), BindsTo s fd ⟨[u], []⟩ [(x, u)]) ∧
        (∀ (H : Hp) (a : Addr) (ns : List Int), ns.length ≤ n → H tb = some (.tbl #[]) → SqL K H a (ns.map V.int) → sp [.ref a] H (fun v _ => v = .bl true) E0) ∧
        ∀ base : Heap, K.In base → base.Ns mainGlobals mg → TabB base mg co tb → FnAt l.prog w K mg base CX0 fa fd x sp) :
    PySem.W.WalkO q loose XP YP l.row.toRowW d [] (fun f vs => PySem.call f vs) := by
  refine Att.attach_callB hn hdf fun w s₀ s₁ mg mb fa o pm cd doc a vs ns G Y ho hd hcd hmg hobj hints hlen hbits hg => ?_
  obtain ⟨K, fd, co, tb, sp, KX, hT, nT, C, hb, hsp, hF⟩ := F w mg fa _ Y G.T.g hmg
  exact law_end KX G.T.g G.T.b G.T.builtins G.T.nolimit hg hT nT C G.T.bmain hobj hints (Nat.le_trans hlen hn2) hF hb fun H hH hS => hsp H a ns hlen hH hS
/-- at_of, the def's code object told -/
theorem at_ofC {P : Program} {w : World} {K : PySem.W.Frag} {mg : Str → Option Value} {base : Heap} {x qual : Str} {params : Arguments} {body : List Stmt} {scope : Scope} {f co : Addr} {fd : FuncData} {N : List Str} {k : Nat} {sp : Sp} {y : Str}
    (F : FunD K x qual params body scope [] [] f fd) (S : FnScope N [y] scope) (hr : Room (k + 1) callerA) (hco : ∀ oc od fd' osl, K.lookup f = some ⟨oc, od, .func fd', osl⟩ → fd'.code = .ref co)
    (hbody : ∀ (s : Shared) (H : Hp) (v : V) (Q : VK), Room k (callerA.deeper (envOfC qual scope s.heap.objs.size f (.ref co))) → sp [v] H Q E0 →
      ∃ t, PSs (cxOf CX0 P w K mg base N qual scope f (.ref co) callerA [] s H E0) body t ∧ t { nx := fun _ H' => Q .non H', rt := Q } (L2.start N [v]) H) : FnAt P w K mg base CX0 f fd y sp := by
  obtain ⟨oc, od, dV, kV, doc, pm, an, cdv, ct, osl, rfl, lk, hcd, _, _⟩ := F.ex
  have hc : cdv = .ref co := hco _ _ _ _ lk
  subst hc
  intro s H u v Q e0 hb r hsp
  have rv : Vals [v] [u] := .cons r .nil
  have KX := e0.mod.kin.keeps fun b o e => (e0.bs b o e).1
  have par : ∀ z ∈ [(y, u)], scope.names.lookup z.1 = some .local ∨ (scope.names.lookup z.1 = some .cell ∧ ((cellsFrom (s.heap.objs.size + 1) scope.names []).lookup z.1).isSome = true) := fun z hz => by
    obtain rfl : z = (y, u) := by simpa using hz
    exact (S.par y (by simp)).imp id fun q => ⟨q, PySem.W.cellsFrom_some _ _ _ (.inl q)⟩
  refine codeAny_call_function hr.depth (KX _ _ lk) rfl S.co S.gen rfl (PySem.W.codeRec_of KX hcd) (hb _ _ _ _ (wpAny_newFunctionEnv_cells S.kind par fun env he s1 x => ?_))
  subst he
  obtain ⟨t, ht, hq⟩ := hbody s H v Q (hr.deeper _) hsp
  have I : Inv (cxOf CX0 P w K mg base N qual scope f (.ref co) callerA [] s H E0) [] (L2.start N [v]) H s1 := inv_start S hr.hd e0 rfl rv x
  refine ⟨(e0.mod.nolimit.keeps fun b o e => (e0.bs b o e).1).keeps x.toInCall.keep, codeAny_func (wpAny_mono (ht.run [] s1 _ H _ I hq) (fun fl s' hs => ?_) fun e s' hs => hs)⟩
  rcases fl with _ | _ | _ | u'
  · obtain ⟨_, H', J, q⟩ := hs
    exact ⟨.non, H', J.os, J.bare, J.base, J.hok, rfl, q⟩
  · exact hs.elim fun _ h => h.elim fun _ h => h.2.elim
  · exact hs.elim fun _ h => h.elim fun _ h => h.2.elim
  · obtain ⟨z, _, H', J, rz, q⟩ := hs
    exact ⟨z, H', J.os, J.bare, J.base, J.hok, rz, q⟩
theorem lawCo_of {K : PySem.W.Frag} {oc : Value} {od : Option Addr} {fd : FuncData} {osl : Array (Option Value)} {c : Addr} (h : K.lookup (ga K "law") = some ⟨oc, od, .func fd, osl⟩) (hc : lawCo K = c) (h0 : c ≠ 0) : fd.code = .ref c := by
  unfold lawCo at hc
  rw [h] at hc
  have hc' : (match fd.code with
    | .ref c => c
    | _ => 0) = c := hc
  generalize fd.code = v at hc'
  cases v with
  | ref a => exact congrArg Value.ref hc'
  | _ => exact absurd hc'.symm h0
end DL
end
section
set_option Elab.async false
set_option linter.all false
set_option maxRecDepth 100000
set_option maxHeartbeats 0
namespace W81
open PySem PySem.Spec PyProof.Rows L2 DL
def dd_is_whole : He.DefD := ⟨("is_whole", none), "is_whole", "is_whole", defArgs s_is_whole, defBody s_is_whole, defScope s_is_whole, [], []⟩
def dd_is_between : He.DefD := ⟨("is_between", none), "is_between", "is_between", defArgs s_is_between, defBody s_is_between, defScope s_is_between, [], []⟩
def dd_is_name : He.DefD := ⟨("is_name", none), "is_name", "is_name", defArgs s_is_name, defBody s_is_name, defScope s_is_name, [], []⟩
def dd_is_tuple_of : He.DefD := ⟨("is_tuple_of", none), "is_tuple_of", "is_tuple_of", defArgs s_is_tuple_of, defBody s_is_tuple_of, defScope s_is_tuple_of, [], []⟩
def dd_is_column : He.DefD := ⟨("is_column", none), "is_column", "is_column", defArgs s_is_column, defBody s_is_column, defScope s_is_column, [], []⟩
def dd_is_yard_value : He.DefD := ⟨("is_yard_value", none), "is_yard_value", "is_yard_value", defArgs s_is_yard_value, defBody s_is_yard_value, defScope s_is_yard_value, [], []⟩
def dd_need_yard : He.DefD := ⟨("need_yard", none), "need_yard", "need_yard", defArgs s_need_yard, defBody s_need_yard, defScope s_need_yard, [], []⟩
def dd_laid : He.DefD := ⟨("laid", none), "laid", "laid", defArgs s_laid, defBody s_laid, defScope s_laid, [], []⟩
def dd_depth_of : He.DefD := ⟨("depth_of", none), "depth_of", "depth_of", defArgs s_depth_of, defBody s_depth_of, defScope s_depth_of, [], []⟩
def dd_is_single : He.DefD := ⟨("is_single", none), "is_single", "is_single", defArgs s_is_single, defBody s_is_single, defScope s_is_single, [], []⟩
def dd_pulled : He.DefD := ⟨("pulled", none), "pulled", "pulled", defArgs s_pulled, defBody s_pulled, defScope s_pulled, [], []⟩
def dd_set_out_in : He.DefD := ⟨("set_out_in", none), "set_out_in", "set_out_in", defArgs s_set_out_in, defBody s_set_out_in, defScope s_set_out_in, [], []⟩
def dd_kinds_in : He.DefD := ⟨("kinds_in", none), "kinds_in", "kinds_in", defArgs s_kinds_in, defBody s_kinds_in, defScope s_kinds_in, [], []⟩
def dd_words_on : He.DefD := ⟨("words_on", none), "words_on", "words_on", defArgs s_words_on, defBody s_words_on, defScope s_words_on, [], []⟩
def dd_words_of : He.DefD := ⟨("words_of", none), "words_of", "words_of", defArgs s_words_of, defBody s_words_of, defScope s_words_of, [], []⟩
def dd_cuts_of : He.DefD := ⟨("cuts_of", none), "cuts_of", "cuts_of", defArgs s_cuts_of, defBody s_cuts_of, defScope s_cuts_of, [], []⟩
def dd_cut_up : He.DefD := ⟨("cut_up", none), "cut_up", "cut_up", defArgs s_cut_up, defBody s_cut_up, defScope s_cut_up, [], []⟩
def dd_yards_of : He.DefD := ⟨("yards_of", none), "yards_of", "yards_of", defArgs s_yards_of, defBody s_yards_of, defScope s_yards_of, [], []⟩
def dd_like_classes : He.DefD := ⟨("like_classes", none), "like_classes", "like_classes", defArgs s_like_classes, defBody s_like_classes, defScope s_like_classes, [], []⟩
def dd_pulls_from : He.DefD := ⟨("pulls_from", none), "pulls_from", "pulls_from", defArgs s_pulls_from, defBody s_pulls_from, defScope s_pulls_from, [], []⟩
def dd_steps_on : He.DefD := ⟨("steps_on", none), "steps_on", "steps_on", defArgs s_steps_on, defBody s_steps_on, defScope s_steps_on, [], []⟩
def dd_parting : He.DefD := ⟨("parting", none), "parting", "parting", defArgs s_parting, defBody s_parting, defScope s_parting, [], []⟩
def dd_judge_like : He.DefD := ⟨("judge_like", none), "judge_like", "judge_like", defArgs s_judge_like, defBody s_judge_like, defScope s_judge_like, [], []⟩
def dd__law_same : He.DefD := ⟨("_law_same", none), "_law_same", "_law_same", defArgs s__law_same, defBody s__law_same, defScope s__law_same, [], []⟩
def dd__law_set_out : He.DefD := ⟨("_law_set_out", none), "_law_set_out", "_law_set_out", defArgs s__law_set_out, defBody s__law_set_out, defScope s__law_set_out, [], []⟩
def dd__law_boxes : He.DefD := ⟨("_law_boxes", none), "_law_boxes", "_law_boxes", defArgs s__law_boxes, defBody s__law_boxes, defScope s__law_boxes, [], []⟩
def dd__law_in_columns : He.DefD := ⟨("_law_in_columns", none), "_law_in_columns", "_law_in_columns", defArgs s__law_in_columns, defBody s__law_in_columns, defScope s__law_in_columns, [], []⟩
def dd__law_deck : He.DefD := ⟨("_law_deck", none), "_law_deck", "_law_deck", defArgs s__law_deck, defBody s__law_deck, defScope s__law_deck, [], []⟩
def dd__law_draw : He.DefD := ⟨("_law_draw", none), "_law_draw", "_law_draw", defArgs s__law_draw, defBody s__law_draw, defScope s__law_draw, [], []⟩
def dd__law_pick : He.DefD := ⟨("_law_pick", none), "_law_pick", "_law_pick", defArgs s__law_pick, defBody s__law_pick, defScope s__law_pick, [], []⟩
def dd__law_all_yards : He.DefD := ⟨("_law_all_yards", none), "_law_all_yards", "_law_all_yards", defArgs s__law_all_yards, defBody s__law_all_yards, defScope s__law_all_yards, [], []⟩
def dd__law_own_classes : He.DefD := ⟨("_law_own_classes", none), "_law_own_classes", "_law_own_classes", defArgs s__law_own_classes, defBody s__law_own_classes, defScope s__law_own_classes, [], []⟩
def dd__law_heard : He.DefD := ⟨("_law_heard", none), "_law_heard", "_law_heard", defArgs s__law_heard, defBody s__law_heard, defScope s__law_heard, [], []⟩
def dd_law : He.DefD := ⟨("law", none), "law", "law", defArgs s_law, defBody s_law, defScope s_law, [], []⟩
def clsSt : Stmt → Stmt
  | .ClassDef _ _ _ body .. => (body.filter fun s => match s with | .FunctionDef .. => true | _ => false).getD 0 (.Pass ⟨0, 0, 0, 0⟩)
  | s => s
abbrev s_init : Stmt := clsSt (top 1)
def hfn : List He.DefD := [dd_is_whole, dd_is_between, dd_is_name, dd_is_tuple_of, dd_is_column, dd_is_yard_value, dd_need_yard, dd_laid, dd_depth_of, dd_is_single, dd_pulled, dd_set_out_in, dd_kinds_in, dd_words_on, dd_words_of, dd_cuts_of, dd_cut_up, dd_yards_of, dd_like_classes, dd_pulls_from, dd_steps_on, dd_parting, dd_judge_like, dd__law_same, dd__law_set_out, dd__law_boxes, dd__law_in_columns, dd__law_deck, dd__law_draw, dd__law_pick, dd__law_all_yards, dd__law_own_classes, dd__law_heard, dd_law]
def hfa : List He.Fa := [.glo "is_whole", .glo "is_between", .glo "is_name", .glo "is_tuple_of", .glo "is_column", .glo "is_yard_value", .glo "need_yard", .glo "laid", .glo "depth_of", .glo "is_single", .glo "pulled", .glo "set_out_in", .glo "kinds_in", .glo "words_on", .glo "words_of", .glo "cuts_of", .glo "cut_up", .glo "yards_of", .glo "like_classes", .glo "pulls_from", .glo "steps_on", .glo "parting", .glo "judge_like", .glo "_law_same", .glo "_law_set_out", .glo "_law_boxes", .glo "_law_in_columns", .glo "_law_deck", .glo "_law_draw", .glo "_law_pick", .glo "_law_all_yards", .glo "_law_own_classes", .glo "_law_heard", .glo "law", .glo "YardError", .glo "BadMany", .glo "BadYard", .free "isinstance", .free "int", .free "bool", .free "str", .free "tuple", .free "list", .free "all", .free "len", .free "zip", .free "sorted", .free "enumerate", .free "range", .free "sum", .free "min", .free "max", .free "repr", .free "super", .int "MOST" (1000000000000), .str "LETTERS" "abcdefghijklmnopqrstuvwxyz", .str "SIGNS" "abcdefghijklmnopqrstuvwxyz0123456789", .int "LONGEST_NAME" (8), .int "MOST_KINDS" (400), .int "MOST_COLUMNS" (6), .glo "ALIKE", .str "UNLIKE" "unlike", .exm "BadYard" "BadYard" true, .exm "BadYard" "BadMany" false, .exm "BadMany" "BadYard" false, .exm "BadMany" "BadMany" true]
def hc : HeadC := ⟨hfa, hfn, "YardError", "YardError.__init__", PySem.Challenge.pw_everyboxout_k81_whole_classes_of_like_ya.main.file, ["BadMany", "BadYard"], [("ALIKE", ["alike"])], iniVal "YardError.__init__" (defArgs s_init) (defBody s_init) (defScope s_init)⟩
abbrev R : PySem.W.OpenRow := PySem.W.OpenLaw.row PySem.Challenge.rw_everyboxout_k81_whole_classes_of_like_ya
abbrev hk : PySem.W.Hook := hc.hook 5
def ob (s : PySem.W.SharedT) : AlY := hc.obsG 5 (HandSHeadRun.getT s)
theorem ob_eq (s : PySem.W.SharedT) : ob s = hk.obs s.abs := HeadC.obsG_eq (HandSHeadRun.getT_eq s)
def nm0 : List Str := ["YardError", "BadMany", "BadYard", "MOST", "LETTERS", "SIGNS", "LONGEST_NAME", "is_whole", "is_between", "is_name", "is_tuple_of", "MOST_KINDS", "is_column", "is_yard_value", "need_yard", "laid", "depth_of", "is_single", "pulled", "set_out_in", "kinds_in", "MOST_COLUMNS", "words_on", "words_of", "cuts_of", "cut_up", "yards_of", "like_classes", "ALIKE", "UNLIKE"]
def nm1 : List Str := ["pulls_from", "steps_on", "parting", "judge_like", "_law_same", "_law_set_out", "_law_boxes", "_law_in_columns", "_law_deck", "_law_draw", "_law_pick", "_law_all_yards", "_law_own_classes", "_law_heard"]
def names : List Str := nm0 ++ nm1
theorem run (w : World) : HandSHeadRun.RunEq R (PySem.W.view R.prog [50]) hk ob 20000 names w := by
  intro os
  kernel_rfl
end W81
end
section
set_option Elab.async false
set_option linter.all false
set_option maxRecDepth 100000
set_option maxHeartbeats 4000000
namespace W81
open PySem PySem.Spec PyProof.Rows L2 LamX DL He
section
variable {P : Program} {w : World} {K : PySem.W.Frag} {mg : Str → Option Value} {base : Heap}
/-- what the head gives -/
structure Hf (K : PySem.W.Frag) (mg : Str → Option Value) : Prop where
  gs : Gs mg K
  f_is_whole : ∃ fd, FnP K "is_whole" s_is_whole (ga K "is_whole") fd
  m_is_whole : mg "is_whole" = some (.ref (ga K "is_whole"))
  f_is_between : ∃ fd, FnP K "is_between" s_is_between (ga K "is_between") fd
  m_is_between : mg "is_between" = some (.ref (ga K "is_between"))
  f_is_name : ∃ fd, FnP K "is_name" s_is_name (ga K "is_name") fd
  m_is_name : mg "is_name" = some (.ref (ga K "is_name"))
  f_is_tuple_of : ∃ fd, FnP K "is_tuple_of" s_is_tuple_of (ga K "is_tuple_of") fd
  m_is_tuple_of : mg "is_tuple_of" = some (.ref (ga K "is_tuple_of"))
  f_is_column : ∃ fd, FnP K "is_column" s_is_column (ga K "is_column") fd
  m_is_column : mg "is_column" = some (.ref (ga K "is_column"))
  f_is_yard_value : ∃ fd, FnP K "is_yard_value" s_is_yard_value (ga K "is_yard_value") fd
  m_is_yard_value : mg "is_yard_value" = some (.ref (ga K "is_yard_value"))
  f_need_yard : ∃ fd, FnP K "need_yard" s_need_yard (ga K "need_yard") fd
  m_need_yard : mg "need_yard" = some (.ref (ga K "need_yard"))
  f_laid : ∃ fd, FnP K "laid" s_laid (ga K "laid") fd
  m_laid : mg "laid" = some (.ref (ga K "laid"))
  f_depth_of : ∃ fd, FnP K "depth_of" s_depth_of (ga K "depth_of") fd
  m_depth_of : mg "depth_of" = some (.ref (ga K "depth_of"))
  f_is_single : ∃ fd, FnP K "is_single" s_is_single (ga K "is_single") fd
  m_is_single : mg "is_single" = some (.ref (ga K "is_single"))
  f_pulled : ∃ fd, FnP K "pulled" s_pulled (ga K "pulled") fd
  m_pulled : mg "pulled" = some (.ref (ga K "pulled"))
  f_set_out_in : ∃ fd, FnP K "set_out_in" s_set_out_in (ga K "set_out_in") fd
  m_set_out_in : mg "set_out_in" = some (.ref (ga K "set_out_in"))
  f_kinds_in : ∃ fd, FnP K "kinds_in" s_kinds_in (ga K "kinds_in") fd
  m_kinds_in : mg "kinds_in" = some (.ref (ga K "kinds_in"))
  f_words_on : ∃ fd, FnP K "words_on" s_words_on (ga K "words_on") fd
  m_words_on : mg "words_on" = some (.ref (ga K "words_on"))
  f_words_of : ∃ fd, FnP K "words_of" s_words_of (ga K "words_of") fd
  m_words_of : mg "words_of" = some (.ref (ga K "words_of"))
  f_cuts_of : ∃ fd, FnP K "cuts_of" s_cuts_of (ga K "cuts_of") fd
  m_cuts_of : mg "cuts_of" = some (.ref (ga K "cuts_of"))
  f_cut_up : ∃ fd, FnP K "cut_up" s_cut_up (ga K "cut_up") fd
  m_cut_up : mg "cut_up" = some (.ref (ga K "cut_up"))
  f_yards_of : ∃ fd, FnP K "yards_of" s_yards_of (ga K "yards_of") fd
  m_yards_of : mg "yards_of" = some (.ref (ga K "yards_of"))
  f_like_classes : ∃ fd, FnP K "like_classes" s_like_classes (ga K "like_classes") fd
  m_like_classes : mg "like_classes" = some (.ref (ga K "like_classes"))
  f_pulls_from : ∃ fd, FnP K "pulls_from" s_pulls_from (ga K "pulls_from") fd
  m_pulls_from : mg "pulls_from" = some (.ref (ga K "pulls_from"))
  f_steps_on : ∃ fd, FnP K "steps_on" s_steps_on (ga K "steps_on") fd
  m_steps_on : mg "steps_on" = some (.ref (ga K "steps_on"))
  f_parting : ∃ fd, FnP K "parting" s_parting (ga K "parting") fd
  m_parting : mg "parting" = some (.ref (ga K "parting"))
  f_judge_like : ∃ fd, FnP K "judge_like" s_judge_like (ga K "judge_like") fd
  m_judge_like : mg "judge_like" = some (.ref (ga K "judge_like"))
  f__law_same : ∃ fd, FnP K "_law_same" s__law_same (ga K "_law_same") fd
  m__law_same : mg "_law_same" = some (.ref (ga K "_law_same"))
  f__law_set_out : ∃ fd, FnP K "_law_set_out" s__law_set_out (ga K "_law_set_out") fd
  m__law_set_out : mg "_law_set_out" = some (.ref (ga K "_law_set_out"))
  f__law_boxes : ∃ fd, FnP K "_law_boxes" s__law_boxes (ga K "_law_boxes") fd
  m__law_boxes : mg "_law_boxes" = some (.ref (ga K "_law_boxes"))
  f__law_in_columns : ∃ fd, FnP K "_law_in_columns" s__law_in_columns (ga K "_law_in_columns") fd
  m__law_in_columns : mg "_law_in_columns" = some (.ref (ga K "_law_in_columns"))
  f__law_deck : ∃ fd, FnP K "_law_deck" s__law_deck (ga K "_law_deck") fd
  m__law_deck : mg "_law_deck" = some (.ref (ga K "_law_deck"))
  f__law_draw : ∃ fd, FnP K "_law_draw" s__law_draw (ga K "_law_draw") fd
  m__law_draw : mg "_law_draw" = some (.ref (ga K "_law_draw"))
  f__law_pick : ∃ fd, FnP K "_law_pick" s__law_pick (ga K "_law_pick") fd
  m__law_pick : mg "_law_pick" = some (.ref (ga K "_law_pick"))
  f__law_all_yards : ∃ fd, FnP K "_law_all_yards" s__law_all_yards (ga K "_law_all_yards") fd
  m__law_all_yards : mg "_law_all_yards" = some (.ref (ga K "_law_all_yards"))
  f__law_own_classes : ∃ fd, FnP K "_law_own_classes" s__law_own_classes (ga K "_law_own_classes") fd
  m__law_own_classes : mg "_law_own_classes" = some (.ref (ga K "_law_own_classes"))
  f__law_heard : ∃ fd, FnP K "_law_heard" s__law_heard (ga K "_law_heard") fd
  m__law_heard : mg "_law_heard" = some (.ref (ga K "_law_heard"))
  f_law : ∃ fd, FnP K "law" s_law (ga K "law") fd
  m_law : mg "law" = some (.ref (ga K "law"))
theorem all_defs (h : Hf K mg) {D0 fI : Addr} (hI : YInit P K D0 fI) (xY : YC K D0 fI (ga K "BadYard")) (xM : YC K D0 fI (ga K "BadMany")) (mY : mg "BadYard" = some (.ref (ga K "BadYard"))) (mM : mg "BadMany" = some (.ref (ga K "BadMany"))) :
    Cal P w K mg base 9 "_law_same" spSame ∧
    CalXR P w K mg base 9 "like_classes" ["most", "yard"] (spLike (ga K "BadYard") (ga K "BadMany")) ∧
    CalX P w K mg base 9 "like_classes" (spLike (ga K "BadYard") (ga K "BadMany")) ∧
    Cal P w K mg base 9 "_law_pick" spPick ∧
    CalX P w K mg base 9 "judge_like" (spJudge (ga K "BadYard")) ∧
    Cal P w K mg base 9 "_law_draw" spDraw ∧
    Cal P w K mg base 9 "_law_own_classes" spOwn ∧
    Cal P w K mg base 9 "_law_in_columns" spInCols ∧
    Cal P w K mg base 9 "_law_boxes" spBoxes ∧
    Cal P w K mg base 9 "_law_deck" (spDeck K) := by
  obtain ⟨fd_is_whole, F_is_whole⟩ := h.f_is_whole
  have C_is_whole : Cal P w K mg base 1 "is_whole" spWhole := c_is_whole (k := 0) h.gs F_is_whole h.m_is_whole  (fun ds G Q h => by obtain ⟨_, rfl, _⟩ := h; rfl) (k_is_whole)
  obtain ⟨fd_is_between, F_is_between⟩ := h.f_is_between
  have C_is_between : Cal P w K mg base 2 "is_between" spBet := c_is_between (k := 1) h.gs F_is_between h.m_is_between (C_is_whole.mono (by decide : 1 ≤ 1)) (fun ds G Q h => by obtain ⟨_, _, _, rfl, _⟩ := h; rfl) (k_is_between)
  obtain ⟨fd_is_name, F_is_name⟩ := h.f_is_name
  have C_is_name : Cal P w K mg base 1 "is_name" spName := c_is_name (k := 0) h.gs F_is_name h.m_is_name  (fun ds G Q h => by obtain ⟨_, rfl, _⟩ := h; rfl) (k_is_name)
  obtain ⟨fd_is_tuple_of, F_is_tuple_of⟩ := h.f_is_tuple_of
  obtain ⟨fd_is_column, F_is_column⟩ := h.f_is_column
  obtain ⟨fd_is_yard_value, F_is_yard_value⟩ := h.f_is_yard_value
  obtain ⟨fd_need_yard, F_need_yard⟩ := h.f_need_yard
  have C_t0 : Cal P w K mg base 2 "is_tuple_of" (spTupOf Looks0) := c_is_tuple_of (k := 1) (S := Looks0) (fun x sp hs => by cases hs; exact C_is_name) h.gs F_is_tuple_of h.m_is_tuple_of (fun ds G Q h => by obtain ⟨_, _, rfl, _⟩ := h; rfl) (k_is_tuple_of Looks0)
  have C_is_column : Cal P w K mg base 3 "is_column" spCol := c_is_column (k := 2) h.gs F_is_column h.m_is_column C_t0 h.m_is_name (fun ds G Q h => by obtain ⟨_, rfl, _⟩ := h; rfl) k_is_column
  have C_t1 : Cal P w K mg base 4 "is_tuple_of" (spTupOf Looks) := c_is_tuple_of (k := 3) (S := Looks) (fun x sp hs => by cases hs; exact C_is_name.mono (by decide); exact C_is_column) h.gs F_is_tuple_of h.m_is_tuple_of (fun ds G Q h => by obtain ⟨_, _, rfl, _⟩ := h; rfl) (k_is_tuple_of Looks)
  have C_is_yard_value : Cal P w K mg base 5 "is_yard_value" spYv := c_is_yard_value (k := 4) h.gs F_is_yard_value h.m_is_yard_value C_t1 h.m_is_column (fun ds G Q h => by obtain ⟨_, rfl, _⟩ := h; rfl) k_is_yard_value
  have C_need_yard : CalX P w K mg base 6 "need_yard" (spNeed (ga K "BadYard")) := c_need_yard (k := 4) h.gs F_need_yard h.m_need_yard C_is_yard_value ⟨hI, xY⟩ mY (fun ds G Q QX h => by obtain ⟨_, rfl, _⟩ := h; rfl) (k_need_yard _)
  obtain ⟨fd_laid, F_laid⟩ := h.f_laid
  have C_laid : Cal P w K mg base 1 "laid" spLaid := c_laid (k := 0) h.gs F_laid h.m_laid  (fun ds G Q h => by obtain ⟨_, _, rfl, _⟩ := h; rfl) (k_laid)
  obtain ⟨fd_depth_of, F_depth_of⟩ := h.f_depth_of
  have C_depth_of : Cal P w K mg base 1 "depth_of" spDep := c_depth_of (k := 0) h.gs F_depth_of h.m_depth_of  (fun ds G Q h => by obtain ⟨_, _, rfl, _⟩ := h; rfl) (k_depth_of)
  obtain ⟨fd_is_single, F_is_single⟩ := h.f_is_single
  have C_is_single : Cal P w K mg base 1 "is_single" spSgl := c_is_single (k := 0) h.gs F_is_single h.m_is_single  (fun ds G Q h => by obtain ⟨_, rfl, _⟩ := h; rfl) (k_is_single)
  obtain ⟨fd_pulled, F_pulled⟩ := h.f_pulled
  have C_pulled : Cal P w K mg base 2 "pulled" spPulled := c_pulled (k := 1) h.gs F_pulled h.m_pulled (C_laid.mono (by decide : 1 ≤ 1)) (C_is_single.mono (by decide : 1 ≤ 1)) (C_depth_of.mono (by decide : 1 ≤ 1)) (fun ds G Q h => by obtain ⟨_, _, rfl, _⟩ := h; rfl) (k_pulled)
  obtain ⟨fd_set_out_in, F_set_out_in⟩ := h.f_set_out_in
  have C_set_out_in : Cal P w K mg base 2 "set_out_in" spOut := c_set_out_in (k := 1) h.gs F_set_out_in h.m_set_out_in (C_is_single.mono (by decide : 1 ≤ 1)) (fun ds G Q h => by obtain ⟨_, rfl, _⟩ := h; rfl) (k_set_out_in)
  obtain ⟨fd_kinds_in, F_kinds_in⟩ := h.f_kinds_in
  have C_kinds_in : Cal P w K mg base 1 "kinds_in" spKinds := c_kinds_in (k := 0) h.gs F_kinds_in h.m_kinds_in  (fun ds G Q h => by obtain ⟨_, rfl, _⟩ := h; rfl) (k_kinds_in)
  obtain ⟨fd_words_on, F_words_on⟩ := h.f_words_on
  have C_words_on : Cal P w K mg base 1 "words_on" spWordsOn := c_words_on (k := 0) h.gs F_words_on h.m_words_on  (fun ds G Q h => by obtain ⟨_, _, rfl, _⟩ := h; rfl) (k_words_on)
  obtain ⟨fd_words_of, F_words_of⟩ := h.f_words_of
  have C_words_of : Cal P w K mg base 2 "words_of" spWordsOf := c_words_of (k := 1) h.gs F_words_of h.m_words_of (C_words_on.mono (by decide : 1 ≤ 1)) (fun ds G Q h => by obtain ⟨_, _, rfl, _⟩ := h; rfl) (k_words_of)
  obtain ⟨fd_cuts_of, F_cuts_of⟩ := h.f_cuts_of
  have C_cuts_of : Cal P w K mg base 1 "cuts_of" spCuts := c_cuts_of (k := 0) h.gs F_cuts_of h.m_cuts_of  (fun ds G Q h => by obtain ⟨_, _, rfl, _⟩ := h; rfl) (k_cuts_of)
  obtain ⟨fd_cut_up, F_cut_up⟩ := h.f_cut_up
  have C_cut_up : Cal P w K mg base 1 "cut_up" spCutUp := c_cut_up (k := 0) h.gs F_cut_up h.m_cut_up  (fun ds G Q h => by obtain ⟨_, _, _, rfl, _⟩ := h; rfl) (k_cut_up)
  obtain ⟨fd_yards_of, F_yards_of⟩ := h.f_yards_of
  have C_yards_of : Cal P w K mg base 3 "yards_of" spYardsOf := c_yards_of (k := 2) h.gs F_yards_of h.m_yards_of (C_cuts_of.mono (by decide : 1 ≤ 2)) (C_words_of.mono (by decide : 2 ≤ 2)) (C_cut_up.mono (by decide : 1 ≤ 2)) (C_laid.mono (by decide : 1 ≤ 2)) (fun ds G Q h => by obtain ⟨_, _, _, rfl, _⟩ := h; rfl) (k_yards_of)
  obtain ⟨fd_pulls_from, F_pulls_from⟩ := h.f_pulls_from
  have C_pulls_from : Cal P w K mg base 2 "pulls_from" spFrom := c_pulls_from (k := 1) h.gs F_pulls_from h.m_pulls_from (C_kinds_in.mono (by decide : 1 ≤ 1)) (fun ds G Q h => by obtain ⟨_, rfl, _⟩ := h; rfl) (k_pulls_from)
  obtain ⟨fd_steps_on, F_steps_on⟩ := h.f_steps_on
  have C_steps_on : Cal P w K mg base 3 "steps_on" spSteps := c_steps_on (k := 2) h.gs F_steps_on h.m_steps_on (C_pulls_from.mono (by decide : 2 ≤ 2)) (C_pulled.mono (by decide : 2 ≤ 2)) (fun ds G Q h => by obtain ⟨_, _, _, rfl, _⟩ := h; rfl) (k_steps_on)
  obtain ⟨fd_parting, F_parting⟩ := h.f_parting
  have C_parting : Cal P w K mg base 4 "parting" spParting := c_parting (k := 3) h.gs F_parting h.m_parting (C_steps_on.mono (by decide : 3 ≤ 3)) (C_set_out_in.mono (by decide : 2 ≤ 3)) (fun ds G Q h => by obtain ⟨_, _, rfl, _⟩ := h; rfl) (k_parting)
  obtain ⟨fd__law_same, F__law_same⟩ := h.f__law_same
  have C__law_same : Cal P w K mg base 1 "_law_same" spSame := c__law_same (k := 0) h.gs F__law_same h.m__law_same  (fun ds G Q h => by obtain ⟨_, _, _, rfl, _⟩ := h; rfl) (k__law_same)
  obtain ⟨fd__law_set_out, F__law_set_out⟩ := h.f__law_set_out
  have C__law_set_out : Cal P w K mg base 1 "_law_set_out" spOut := c__law_set_out (k := 0) h.gs F__law_set_out h.m__law_set_out  (fun ds G Q h => by obtain ⟨_, rfl, _⟩ := h; rfl) (k__law_set_out)
  obtain ⟨fd__law_draw, F__law_draw⟩ := h.f__law_draw
  have C__law_draw : Cal P w K mg base 1 "_law_draw" spDraw := c__law_draw (k := 0) h.gs F__law_draw h.m__law_draw  (fun ds G Q h => by obtain ⟨_, _, _, rfl, _⟩ := h; rfl) (k__law_draw)
  obtain ⟨fd__law_pick, F__law_pick⟩ := h.f__law_pick
  have C__law_pick : Cal P w K mg base 2 "_law_pick" spPick := c__law_pick (k := 1) h.gs F__law_pick h.m__law_pick (C__law_draw.mono (by decide : 1 ≤ 1)) (fun ds G Q h => by obtain ⟨_, _, _, _, rfl, _⟩ := h; rfl) (k__law_pick)
  obtain ⟨fd__law_boxes, F__law_boxes⟩ := h.f__law_boxes
  have C__law_boxes : Cal P w K mg base 3 "_law_boxes" spBoxes := c__law_boxes (k := 2) h.gs F__law_boxes h.m__law_boxes (C__law_draw.mono (by decide : 1 ≤ 2)) (C__law_pick.mono (by decide : 2 ≤ 2)) (fun ds G Q h => by obtain ⟨_, _, _, _, rfl, _⟩ := h; rfl) (k__law_boxes)
  obtain ⟨fd__law_in_columns, F__law_in_columns⟩ := h.f__law_in_columns
  have C__law_in_columns : Cal P w K mg base 3 "_law_in_columns" spInCols := c__law_in_columns (k := 2) h.gs F__law_in_columns h.m__law_in_columns (C__law_pick.mono (by decide : 2 ≤ 2)) (C__law_draw.mono (by decide : 1 ≤ 2)) (fun ds G Q h => by obtain ⟨_, _, _, _, _, rfl, _⟩ := h; rfl) (k__law_in_columns)
  obtain ⟨fd__law_deck, F__law_deck⟩ := h.f__law_deck
  have C__law_deck : Cal P w K mg base 1 "_law_deck" (spDeck K) := c__law_deck (k := 0) h.gs F__law_deck h.m__law_deck  (fun ds G Q h => by obtain ⟨_, _, rfl, _⟩ := h; rfl) (k__law_deck K)
  obtain ⟨fd__law_all_yards, F__law_all_yards⟩ := h.f__law_all_yards
  have C__law_all_yards : Cal P w K mg base 1 "_law_all_yards" spYardsOf := c__law_all_yards (k := 0) h.gs F__law_all_yards h.m__law_all_yards  (fun ds G Q h => by obtain ⟨_, _, _, rfl, _⟩ := h; rfl) (k__law_all_yards)
  obtain ⟨fd__law_own_classes, F__law_own_classes⟩ := h.f__law_own_classes
  have C__law_own_classes : Cal P w K mg base 2 "_law_own_classes" spOwn := c__law_own_classes (k := 1) h.gs F__law_own_classes h.m__law_own_classes (C__law_all_yards.mono (by decide : 1 ≤ 1)) (C__law_set_out.mono (by decide : 1 ≤ 1)) (fun ds G Q h => by obtain ⟨_, _, _, rfl, _⟩ := h; rfl) (k__law_own_classes)
  obtain ⟨fd_like_classes, F_like_classes⟩ := h.f_like_classes
  obtain ⟨fd_judge_like, F_judge_like⟩ := h.f_judge_like
  obtain ⟨C_like_classes, K_like_classes⟩ := c_like_classes (P := P) (w := w) (base := base) (k := 7) h.gs F_like_classes h.m_like_classes (C_kinds_in.mono (by decide : 1 ≤ 8)) (C_yards_of.mono (by decide : 3 ≤ 8)) (C_set_out_in.mono (by decide : 2 ≤ 8)) (C_is_between.mono (by decide : 2 ≤ 8)) (C_need_yard.mono (by decide)) ⟨hI, xM⟩ mM (fun ds G Q QX h => by obtain ⟨_, _, rfl, _⟩ := h; rfl) (k_like_classes (ga K "BadYard") (ga K "BadMany"))
  have C_judge_like : CalX P w K mg base 9 "judge_like" (spJudge (ga K "BadYard")) := c_judge_like (k := 7) h.gs F_judge_like h.m_judge_like (C_parting.mono (by decide : 4 ≤ 8)) (C_kinds_in.mono (by decide : 1 ≤ 8)) (C_need_yard.mono (by decide)) ⟨hI, xY⟩ mY (fun ds G Q QX h => by obtain ⟨_, _, rfl, _⟩ := h; rfl) (k_judge_like _)
  exact ⟨C__law_same.mono (by decide), K_like_classes, C_like_classes, C__law_pick.mono (by decide), C_judge_like, C__law_draw.mono (by decide), C__law_own_classes.mono (by decide), C__law_in_columns.mono (by decide), C__law_boxes.mono (by decide), C__law_deck.mono (by decide)⟩
end
def NL : List Str := ["script", "deck", "many", "yard", "told", "turn", "rows", "boxes", "most", "due", "was", "bad", "odd", "one", "other", "near", "far"]
theorem sc_heard : FnScope ["call", "e"] ["call"] (defScope s__law_heard) := ⟨rfl, rfl, rfl, by decide +kernel, rfl, by decide +kernel, by decide +kernel⟩
/-- what the clauses say -/
structure Cls (K : PySem.W.Frag) (mg : Str → Option Value) : Prop where
  yy : PySem.W.exmOne K (.ref (ga K "BadYard")) (.ref (ga K "BadYard")) = some true
  my : PySem.W.exmOne K (.ref (ga K "BadMany")) (.ref (ga K "BadYard")) = some false
  mm : PySem.W.exmOne K (.ref (ga K "BadMany")) (.ref (ga K "BadMany")) = some true
  hy : HdC K (ga K "YardError") (ga K "BadYard")
  hm : HdC K (ga K "YardError") (ga K "BadMany")
  gY : mg "BadYard" = some (.ref (ga K "BadYard"))
  gM : mg "BadMany" = some (.ref (ga K "BadMany"))
  gE : mg "YardError" = some (.ref (ga K "YardError"))
theorem heard81 {P : Program} {w : World} {K : PySem.W.Frag} {mg : Str → Option Value} {base : Heap} {f g co tb : Addr} {fd : FuncData} {s : Shared} {H : Hp} {k : Nat} (F : FnP K "_law_heard" s__law_heard g fd) (hm : mg "_law_heard" = some (.ref g)) (hi : mg "isinstance" = none) (c : Cls K mg) (TB : TabB base mg co tb)
    (hr : Room (k + 2) (callerA.deeper (envOfC "law" (defScope s_law) s.heap.objs.size f (.ref co)))) : HeardT (XF P w K mg base NL "law" (defScope s_law) f (.ref co) callerA [] s H) k tb (tk81 (ga K "BadYard") (ga K "BadMany")) := by
  intro params body scope lpos p pos t L hdef hbind hbody
  have hb : L2.Binds K fd ["call"] [] := F.bindsN fun _ _ _ _ _ _ us hl => match us, hl with | [_], _ => rfl
  have kp := F.kp
  obtain ⟨oc, od, dV, kV, doc, pm, an, cdv, ct, osl, rfl, lk, hcd, _, _⟩ := F.ex
  refine de_heard (X := XF P w K mg base NL "law" (defScope s_law) f (.ref co) callerA [] s H) (a := "call") (w0 := "told") (w1 := "yard") (w2 := "many") (YE := ga K "YardError") (c1 := .ref (ga K "BadYard")) (c2 := .ref (ga K "BadMany")) (Ng := ["call", "e"])
    rfl hm kp lk hcd hb sc_heard rfl (.inl rfl) ?_ ?_ TB rfl hr L hdef hbind hbody
  · exact heard_gives (Ng := ["call", "e"]) (e := "e") (x1 := "BadYard") (x2 := "BadMany") (wY := "YardError") (fun _ => rfl) rfl rfl (by decide) rfl rfl rfl rfl rfl c.gY rfl rfl c.gM rfl hi rfl c.gE rfl
  · intro C w hw
    rcases hw with ⟨rfl, rfl⟩ | ⟨rfl, rfl⟩
    · exact ⟨c.hy, .inl ⟨c.yy, rfl⟩⟩
    · exact ⟨c.hm, .inr ⟨c.my, c.mm, rfl⟩⟩
end W81
end
section
set_option Elab.async false
set_option linter.all false
set_option maxRecDepth 100000
set_option maxHeartbeats 4000000
namespace W81
open PySem PySem.Spec PyProof.Rows L2 LamX DL He
theorem hf_of {K1 : PySem.W.Frag} {h : Heap} {mg : Str → Option Value} (X : (kOf K1).In h) (G : h.Ns mainGlobals mg) (f : hc.Facts K1) : Hf (kOf K1) mg where
  gs := {
    isinstance := free_ok X G (f.fact 37 (f := .free "isinstance") rfl)
    int := free_ok X G (f.fact 38 (f := .free "int") rfl)
    bool := free_ok X G (f.fact 39 (f := .free "bool") rfl)
    str := free_ok X G (f.fact 40 (f := .free "str") rfl)
    tuple := free_ok X G (f.fact 41 (f := .free "tuple") rfl)
    list := free_ok X G (f.fact 42 (f := .free "list") rfl)
    all := free_ok X G (f.fact 43 (f := .free "all") rfl)
    len := free_ok X G (f.fact 44 (f := .free "len") rfl)
    zip := free_ok X G (f.fact 45 (f := .free "zip") rfl)
    sorted := free_ok X G (f.fact 46 (f := .free "sorted") rfl)
    enumerate := free_ok X G (f.fact 47 (f := .free "enumerate") rfl)
    range := free_ok X G (f.fact 48 (f := .free "range") rfl)
    sum := free_ok X G (f.fact 49 (f := .free "sum") rfl)
    min := free_ok X G (f.fact 50 (f := .free "min") rfl)
    max := free_ok X G (f.fact 51 (f := .free "max") rfl)
    repr := free_ok X G (f.fact 52 (f := .free "repr") rfl)
    super := free_ok X G (f.fact 53 (f := .free "super") rfl)
    MOST := int_ok X G (f.fact 54 (f := .int "MOST" (1000000000000)) rfl)
    LETTERS := str_ok X G (f.fact 55 (f := .str "LETTERS" "abcdefghijklmnopqrstuvwxyz") rfl)
    SIGNS := str_ok X G (f.fact 56 (f := .str "SIGNS" "abcdefghijklmnopqrstuvwxyz0123456789") rfl)
    LONGEST_NAME := int_ok X G (f.fact 57 (f := .int "LONGEST_NAME" (8)) rfl)
    MOST_KINDS := int_ok X G (f.fact 58 (f := .int "MOST_KINDS" (400)) rfl)
    MOST_COLUMNS := int_ok X G (f.fact 59 (f := .int "MOST_COLUMNS" (6)) rfl)
    ALIKE := ⟨_, glo_ok X G (f.fact 60 (f := .glo "ALIKE") rfl), fun H => f.tup 0 rfl H⟩
    UNLIKE := str_ok X G (f.fact 61 (f := .str "UNLIKE" "unlike") rfl) }
  f_is_whole := f.def_ 0 (d := dd_is_whole) rfl
  m_is_whole := glo_ok X G (f.fact 0 (f := .glo "is_whole") rfl)
  f_is_between := f.def_ 1 (d := dd_is_between) rfl
  m_is_between := glo_ok X G (f.fact 1 (f := .glo "is_between") rfl)
  f_is_name := f.def_ 2 (d := dd_is_name) rfl
  m_is_name := glo_ok X G (f.fact 2 (f := .glo "is_name") rfl)
  f_is_tuple_of := f.def_ 3 (d := dd_is_tuple_of) rfl
  m_is_tuple_of := glo_ok X G (f.fact 3 (f := .glo "is_tuple_of") rfl)
  f_is_column := f.def_ 4 (d := dd_is_column) rfl
  m_is_column := glo_ok X G (f.fact 4 (f := .glo "is_column") rfl)
  f_is_yard_value := f.def_ 5 (d := dd_is_yard_value) rfl
  m_is_yard_value := glo_ok X G (f.fact 5 (f := .glo "is_yard_value") rfl)
  f_need_yard := f.def_ 6 (d := dd_need_yard) rfl
  m_need_yard := glo_ok X G (f.fact 6 (f := .glo "need_yard") rfl)
  f_laid := f.def_ 7 (d := dd_laid) rfl
  m_laid := glo_ok X G (f.fact 7 (f := .glo "laid") rfl)
  f_depth_of := f.def_ 8 (d := dd_depth_of) rfl
  m_depth_of := glo_ok X G (f.fact 8 (f := .glo "depth_of") rfl)
  f_is_single := f.def_ 9 (d := dd_is_single) rfl
  m_is_single := glo_ok X G (f.fact 9 (f := .glo "is_single") rfl)
  f_pulled := f.def_ 10 (d := dd_pulled) rfl
  m_pulled := glo_ok X G (f.fact 10 (f := .glo "pulled") rfl)
  f_set_out_in := f.def_ 11 (d := dd_set_out_in) rfl
  m_set_out_in := glo_ok X G (f.fact 11 (f := .glo "set_out_in") rfl)
  f_kinds_in := f.def_ 12 (d := dd_kinds_in) rfl
  m_kinds_in := glo_ok X G (f.fact 12 (f := .glo "kinds_in") rfl)
  f_words_on := f.def_ 13 (d := dd_words_on) rfl
  m_words_on := glo_ok X G (f.fact 13 (f := .glo "words_on") rfl)
  f_words_of := f.def_ 14 (d := dd_words_of) rfl
  m_words_of := glo_ok X G (f.fact 14 (f := .glo "words_of") rfl)
  f_cuts_of := f.def_ 15 (d := dd_cuts_of) rfl
  m_cuts_of := glo_ok X G (f.fact 15 (f := .glo "cuts_of") rfl)
  f_cut_up := f.def_ 16 (d := dd_cut_up) rfl
  m_cut_up := glo_ok X G (f.fact 16 (f := .glo "cut_up") rfl)
  f_yards_of := f.def_ 17 (d := dd_yards_of) rfl
  m_yards_of := glo_ok X G (f.fact 17 (f := .glo "yards_of") rfl)
  f_like_classes := f.def_ 18 (d := dd_like_classes) rfl
  m_like_classes := glo_ok X G (f.fact 18 (f := .glo "like_classes") rfl)
  f_pulls_from := f.def_ 19 (d := dd_pulls_from) rfl
  m_pulls_from := glo_ok X G (f.fact 19 (f := .glo "pulls_from") rfl)
  f_steps_on := f.def_ 20 (d := dd_steps_on) rfl
  m_steps_on := glo_ok X G (f.fact 20 (f := .glo "steps_on") rfl)
  f_parting := f.def_ 21 (d := dd_parting) rfl
  m_parting := glo_ok X G (f.fact 21 (f := .glo "parting") rfl)
  f_judge_like := f.def_ 22 (d := dd_judge_like) rfl
  m_judge_like := glo_ok X G (f.fact 22 (f := .glo "judge_like") rfl)
  f__law_same := f.def_ 23 (d := dd__law_same) rfl
  m__law_same := glo_ok X G (f.fact 23 (f := .glo "_law_same") rfl)
  f__law_set_out := f.def_ 24 (d := dd__law_set_out) rfl
  m__law_set_out := glo_ok X G (f.fact 24 (f := .glo "_law_set_out") rfl)
  f__law_boxes := f.def_ 25 (d := dd__law_boxes) rfl
  m__law_boxes := glo_ok X G (f.fact 25 (f := .glo "_law_boxes") rfl)
  f__law_in_columns := f.def_ 26 (d := dd__law_in_columns) rfl
  m__law_in_columns := glo_ok X G (f.fact 26 (f := .glo "_law_in_columns") rfl)
  f__law_deck := f.def_ 27 (d := dd__law_deck) rfl
  m__law_deck := glo_ok X G (f.fact 27 (f := .glo "_law_deck") rfl)
  f__law_draw := f.def_ 28 (d := dd__law_draw) rfl
  m__law_draw := glo_ok X G (f.fact 28 (f := .glo "_law_draw") rfl)
  f__law_pick := f.def_ 29 (d := dd__law_pick) rfl
  m__law_pick := glo_ok X G (f.fact 29 (f := .glo "_law_pick") rfl)
  f__law_all_yards := f.def_ 30 (d := dd__law_all_yards) rfl
  m__law_all_yards := glo_ok X G (f.fact 30 (f := .glo "_law_all_yards") rfl)
  f__law_own_classes := f.def_ 31 (d := dd__law_own_classes) rfl
  m__law_own_classes := glo_ok X G (f.fact 31 (f := .glo "_law_own_classes") rfl)
  f__law_heard := f.def_ 32 (d := dd__law_heard) rfl
  m__law_heard := glo_ok X G (f.fact 32 (f := .glo "_law_heard") rfl)
  f_law := f.def_ 33 (d := dd_law) rfl
  m_law := glo_ok X G (f.fact 33 (f := .glo "law") rfl)
theorem cls_of {K1 : PySem.W.Frag} {h : Heap} {mg : Str → Option Value} (X : (kOf K1).In h) (G : h.Ns mainGlobals mg) (f : hc.Facts K1) : Cls (kOf K1) mg where
  yy := of_decide_eq_true (show decide (PySem.W.exmOne (kOf K1) (.ref (ga (kOf K1) "BadYard")) (.ref (ga (kOf K1) "BadYard")) = some true) = true from f.fact 62 (f := .exm "BadYard" "BadYard" true) rfl)
  my := of_decide_eq_true (show decide (PySem.W.exmOne (kOf K1) (.ref (ga (kOf K1) "BadMany")) (.ref (ga (kOf K1) "BadYard")) = some false) = true from f.fact 64 (f := .exm "BadMany" "BadYard" false) rfl)
  mm := of_decide_eq_true (show decide (PySem.W.exmOne (kOf K1) (.ref (ga (kOf K1) "BadMany")) (.ref (ga (kOf K1) "BadMany")) = some true) = true from f.fact 65 (f := .exm "BadMany" "BadMany" true) rfl)
  hy := (f.exc 1 (x := "BadYard") rfl).2
  hm := (f.exc 0 (x := "BadMany") rfl).2
  gY := glo_ok X G (f.fact 36 (f := .glo "BadYard") rfl)
  gM := glo_ok X G (f.fact 35 (f := .glo "BadMany") rfl)
  gE := glo_ok X G (f.fact 34 (f := .glo "YardError") rfl)
theorem ini_text : ∃ p0 p1 p2 p3 p4 p5 p6 p7 p8 p9, IniText "YardError.__init__" (defArgs s_init) (defScope s_init) p0 p1 p2 p3 p4 p5 p6 p7 p8 p9 ∧
    defBody s_init = [.Expr (.Call (.Attribute (.Call (.Name "super" p0) [] [] p1) "__init__" p2) [.Name "thing" p3] [] p4) p5, .Assign [.Attribute (.Name "self" p6) "thing" p7] (.Name "thing" p8) p9] := by
  refine ⟨_, _, _, _, _, _, _, _, _, _, ⟨?_, ⟨_, rfl, rfl⟩, rfl, rfl, rfl, rfl, rfl, by decide +kernel, rfl, rfl, ⟨_, fun _ _ _ _ => rfl⟩, fun _ _ _ _ => ⟨rfl, rfl, rfl, rfl⟩⟩, rfl⟩
  intro kV doc pm an cdv ct cc us hl
  match us, hl with
  | [_, _], _ => rfl
theorem yinit81 {P : Program} {K1 : PySem.W.Frag} (f : hc.Facts K1) (hf : P.main.file = PySem.Challenge.pw_everyboxout_k81_whole_classes_of_like_ya.main.file) (hs : (P.main.scope.names.lookup ("super" : Str)).isSome = false) : YInit P (kOf K1) (ga (kOf K1) "YardError") (ma (kOf K1) (ga (kOf K1) "YardError") "__init__") := by
  obtain ⟨p0, p1, p2, p3, p4, p5, p6, p7, p8, p9, T, e⟩ := ini_text
  have iw := f.iw
  exact yinit_of (file := PySem.Challenge.pw_everyboxout_k81_whole_classes_of_like_ya.main.file) T (by rw [← e]; exact iw) f.ib f.yb hf hs
/-! ### the law at its caller -/
def spLaw (K : PySem.W.Frag) (tb : Addr) : Sp := fun vs H Q _ => ∃ (a : Addr) (ns : List Int), vs = [.ref a] ∧ ns.length ≤ 63 ∧ H tb = some (.tbl #[]) ∧ SqL K H a (ns.map V.int) ∧ ∀ H', Q (.bl true) H'
/-- the store when the law begins -/
def G0 (o : Option DO) (a tb : Addr) (q : Str) : Gp := fun b => if b = tb then some (.tb q) else if b = a then o else none
theorem law81 {P : Program} {w : World} {K : PySem.W.Frag} {mg : Str → Option Value} {base : Heap} {f co tb : Addr} {fd : FuncData} (h : Hf K mg) {D0 fI : Addr} (hI : YInit P K D0 fI) (xY : YC K D0 fI (ga K "BadYard")) (xM : YC K D0 fI (ga K "BadMany")) (c : Cls K mg)
    (F : FnP K "law" s_law f fd) (hco : ∀ oc od fd' osl, K.lookup f = some ⟨oc, od, .func fd', osl⟩ → fd'.code = .ref co) (TB : TabB base mg co tb) : FnAt P w K mg base CX0 f fd "script" (spLaw K tb) := by
  obtain ⟨c1, c2, c3, c4, c5, c6, c7, c8, c9, c10⟩ := all_defs (w := w) (base := base) h hI xY xM c.gY c.gM
  obtain ⟨fd_h, F_h⟩ := h.f__law_heard
  have room : Room 13 callerA := ⟨rfl, by decide, by decide⟩
  refine at_ofC (k := 12) (N := NL) F sc_law room hco fun s H v Q hroom hsp => ?_
  obtain ⟨a, ns, ev, hn, htb, hS, hq⟩ := hsp
  obtain rfl : v = .ref a := (List.cons.inj ev).1
  have hd := heard81 (P := P) (w := w) (base := base) (f := f) (s := s) (H := H) (k := 9) F_h h.m__law_heard h.gs.isinstance c TB (hroom.mono (by decide))
  have nab : a ≠ tb ∨ ∃ ok its n, K.lookup a = some ok ∧ ok.cls = .type "list" ∧ ok.dict = none ∧ ok.data = .seq its n ∧ its.size ≤ sizeLine ∧ Vals (ns.map V.int) its.toList := by
    rcases hS with (hS | ⟨ob, hS⟩) | hS
    · exact .inl fun z => by rw [z, htb] at hS; cases hS
    · exact .inl fun z => by rw [z, htb] at hS; cases hS
    · exact .inr hS
  obtain ⟨o, ho, hlst, hro, hnt⟩ : ∃ o : Option DO, True ∧ (lstAt (G0 o a tb ((XF P w K mg base NL "law" (defScope s_law) f (.ref co) callerA [] s H).env.qual ++ "<lambda>")) a = some (ns.map D.int) ∨ KList K a (ns.map V.int)) ∧ (∀ u, o = some u → RO K ⟨mg, P, w⟩ H a u) ∧ ∀ r, o ≠ some (.tb r) := by
    have lz : (ns.map D.int).length ≤ sizeLine := by rw [List.length_map]; exact sz_of (by omega)
    rcases hS with (hS | ⟨ob, hS⟩) | hS
    · have ne : a ≠ tb := fun z => by rw [z, htb] at hS; cases hS
      refine ⟨some (.lst (ns.map D.int)), trivial, .inl ?_, fun u hu => ?_, fun r z => by cases z⟩
      · exact lstAt_lst (by unfold G0; rw [if_neg ne, if_pos rfl])
      · cases hu; exact ⟨_, hS, rvs_intl ns, lz⟩
    · have ne : a ≠ tb := fun z => by rw [z, htb] at hS; cases hS
      refine ⟨some (.fl (ns.map D.int)), trivial, .inl ?_, fun u hu => ?_, fun r z => by cases z⟩
      · exact lstAt_fl (by unfold G0; rw [if_neg ne, if_pos rfl])
      · cases hu; exact ⟨ob, _, hS, rvs_intl ns, lz⟩
    · exact ⟨none, trivial, .inr fun H' => .inr hS, (fun u hu => by cases hu), fun r z => by cases z⟩
  refine ⟨_, PSs.nox (d_law (P := P) (w := w) (base := base) (s := s) (H := H) (co := co) h.gs c1 c2 c3 c4 c5 c6 c7 c8 c9 c10 hd (hroom.mono (by decide))), startD NL [.ref a], G0 o a tb ((XF P w K mg base NL "law" (defScope s_law) f (.ref co) callerA [] s H).env.qual ++ "<lambda>"), { nx := fun _ G' => (fun d (_ : Gp) => d = D.bl true) .non G', rt := fun d _ => d = .bl true }, rst_start (rvs_cons rv_ref rvs_nil), ?_, ?_, ?_⟩
  · intro b u hb
    unfold G0 at hb
    by_cases h1 : b = tb
    · rw [if_pos h1] at hb
      cases hb
      rw [h1]
      exact ⟨#[], htb, by simp [TriplesOk], fun pos cv hc => by simp [codeAmong] at hc⟩
    · rw [if_neg h1] at hb
      by_cases h2 : b = a
      · rw [if_pos h2] at hb
        rw [h2]
        exact hro u hb
      · rw [if_neg h2] at hb
        cases hb
  · refine k_law K _ _ tb _ a ns _ (fun d _ => d = .bl true) hn hlst ⟨by unfold G0; rw [if_pos rfl]; rfl, fun b r hb => ?_⟩ fun _ => rfl
    unfold G0 at hb
    by_cases h1 : b = tb
    · exact h1
    · rw [if_neg h1] at hb
      by_cases h2 : b = a
      · rw [if_pos h2] at hb; exact absurd hb (hnt r)
      · rw [if_neg h2] at hb; cases hb
  · refine ⟨(fun env G' σ H' q _ _ _ => by cases q), fun d G' v H' q rv _ _ => ?_, fun _ _ _ _ z => z.elim, fun _ _ _ _ z => z.elim, fun _ _ _ _ _ _ z => z.elim⟩
    obtain rfl : d = .bl true := q
    rw [rv_bl_inv rv]
    exact hq H'
end W81
end
set_option Elab.async false
set_option linter.all false
set_option maxRecDepth 100000
open PySem PySem.W PySem.Calls PyProof.Rows
set_option maxRecDepth 100000 in
set_option maxHeartbeats 0 in
theorem PySem.Challenge.cw_everyboxout_k81_whole_classes_of_like_ya_holds : PySem.Challenge.rw_everyboxout_k81_whole_classes_of_like_ya.Holds := by
  w_on; o_law
  refine HandSHeadRun.head_any (r := OpenLaw.row PySem.Challenge.rw_everyboxout_k81_whole_classes_of_like_ya) (q := view (OpenLaw.row PySem.Challenge.rw_everyboxout_k81_whole_classes_of_like_ya).prog [50]) (H := W81.hk) (ob := W81.ob) (M := 20000) (loose := W81.names) (d := HandSHeadRun.topDef (OpenLaw.row PySem.Challenge.rw_everyboxout_k81_whole_classes_of_like_ya).prog 50) (kwd := []) W81.ob_eq
    (by kernel_rfl) (fun s => by kernel_rfl) W81.run (by kernel_rfl) (by kernel_rfl) (by kernel_rfl) (by rfl) (by first | assumption | decide +kernel) (by decide +kernel) ⟨rfl, rfl, rfl, rfl, rfl, by decide +kernel⟩ ?hw ?hc
  case hw => w_witness2
  case hc =>
    refine DL.walk_endE (l := PySem.Challenge.rw_everyboxout_k81_whole_classes_of_like_ya) (n := 63) (x := "script") rfl (by decide) (by kernel_rfl) ?F
    intro w mg fa h Y G hmg0
    obtain ⟨K1, KX, c⟩ := Y
    have f := DL.HeadC.Says.facts c
    have X := DL.less_frag (b := DL.tbAt K1 (DL.lawCo K1)) KX
    have hmg : mg ("law" : PySem.Str) = some (.ref fa) := by
      have e : (HandSHeadRun.topDef (OpenLaw.row PySem.Challenge.rw_everyboxout_k81_whole_classes_of_like_ya).prog 50).name = ("law" : PySem.Str) := by kernel_rfl
      rw [← e]
      exact hmg0
    have hf := W81.hf_of (mg := mg) X G f
    have cl := W81.cls_of (mg := mg) X G f
    obtain ⟨fd, F⟩ := hf.f_law
    have e := hmg.symm.trans hf.m_law
    cases e
    obtain ⟨hcode, htb⟩ := DL.codeB_ok KX f.code
    have b := F.bindsA (ps := ["script"]) fun _ _ _ _ _ _ us hl => match us, hl with | [_], _ => rfl
    refine ⟨DL.kOf K1, fd, DL.lawCo K1, DL.tbAt K1 (DL.lawCo K1), W81.spLaw (DL.kOf K1) (DL.tbAt K1 (DL.lawCo K1)), X, htb, DL.less_at K1, hcode, fun s v => b s [v] rfl, fun H a ns hl htb hS => ⟨a, ns, rfl, hl, htb, hS, fun _ => rfl⟩, fun base _ _ TB => ?_⟩
    exact W81.law81 hf (W81.yinit81 f rfl (by decide +kernel)) (f.exc 1 (x := "BadYard") rfl).1 (f.exc 0 (x := "BadMany") rfl).1 cl F (fun oc od fd' osl hk => DL.lawCo_of hk f.co.1 f.co.2) TB
