import PyProof.Rows.All
import Wide.All
import OpenK.AllK
import Wide.FinOn
import HandS.ForMost
import HandS.ForExc
import HandS.Flow
import HandS.Style
import HandS.Lambda
import HandS.IsInst
import HandS.TupAny
import HandS.Zip
import HandS.WideBits
import HandS.Wide
import HandS.Deep
import HandS.WordsDict
import KE.KStateDown
import HandS.Head0
import HandS.Head1
import HandS.Head2
import HandS.HeadEnd
import HandS.HeadHook1
import HandS.HeadHook2
import HandS.Defaults
import PySem.Challenge.RW_chordkeep_k69_whole_numbers_about_primes
set_option Elab.async false
set_option linter.all false
set_option maxRecDepth 100000
set_option maxHeartbeats 4000000
noncomputable section

namespace DL
open PySem PySem.Spec L2
open PyProof.Rows hiding St

/-! ### deep values: immutable data by content, objects of the own store by number -/
inductive DV where
  | non | bl (b : Bool) | int (i : Int) | str (x : Str)
  | tup (l : List DV) | lst (l : List DV) | scr (l : List Int)
  | dk (l : List (Key × DV)) | dt (l : List (List Key × DV))
  | obj (n : Nat)

/-- an object of the store -/
inductive DO where
  | tape (cells : List Int) (seed : Int)
  | ins (c : Str) (fs : List (Str × DV))

mutual
/-- no list, no dict anywhere in it -/
def noL : DV → Bool
  | .tup l => noLs l
  | .lst _ => false
  | .dk _ => false
  | .dt _ => false
  | _ => true
def noLs : List DV → Bool
  | [] => true
  | d :: r => noL d && noLs r
end
mutual
/-- no object of the store in it -/
def noO : DV → Bool
  | .tup l => noOs l
  | .lst l => noOs l
  | .dk _ => false
  | .dt _ => false
  | .obj _ => false
  | _ => true
def noOs : List DV → Bool
  | [] => true
  | d :: r => noO d && noOs r
end

abbrev Phi := List (List Addr)

def ScrAt (K : PySem.W.Frag) (F : Hp) (a : Addr) (ns : List Int) : Prop :=
  (∃ o, F a = some (.frz o (.lst (ns.map V.int)))) ∨
    ∃ (o : Obj) (its : Array Value) (n : Nat), K.lookup a = some o ∧ o.cls = .type "list" ∧ o.dict = none ∧ o.data = .seq its n ∧ its.size ≤ sizeLine ∧ Vals (ns.map V.int) its.toList
theorem ScrAt.seq {K : PySem.W.Frag} {F H : Hp} {a : Addr} {ns : List Int} (h : ScrAt K F a ns) (k : ∀ a o, F a = some o → H a = some o) : SqL K H a (ns.map V.int) := by
  rcases h with ⟨o, h⟩ | h
  · exact .inl (.inr ⟨o, k _ _ h⟩)
  · exact .inr h

mutual
inductive IsD (K : PySem.W.Frag) (F : Hp) (φ : Phi) : V → DV → Prop
  | non : IsD K F φ .non .non
  | bl (b : Bool) : IsD K F φ (.bl b) (.bl b)
  | int (i : Int) : IsD K F φ (.int i) (.int i)
  | str (x : Str) : IsD K F φ (.str x) (.str x)
  | tup {a : Addr} {xs : List V} {ds : List DV} : SqT K F a xs → IsDs K F φ xs ds → IsD K F φ (.ref a) (.tup ds)
  | lst {a : Addr} {xs : List V} {ds : List DV} : F a = some (.lst xs) → IsDs K F φ xs ds → IsD K F φ (.ref a) (.lst ds)
  | scr {a : Addr} {ns : List Int} : ScrAt K F a ns → IsD K F φ (.ref a) (.scr ns)
  | dk {a : Addr} {ks : List (Key × V)} {kvs : List (Key × DV)} : F a = some (.dK ks) → ks.map (·.1) = kvs.map (·.1) → IsDs K F φ (ks.map (·.2)) (kvs.map (·.2)) → IsD K F φ (.ref a) (.dk kvs)
  | dt {a : Addr} {ks : List (List Key × V)} {kvs : List (List Key × DV)} : F a = some (.dT ks) → ks.map (·.1) = kvs.map (·.1) → IsDs K F φ (ks.map (·.2)) (kvs.map (·.2)) → IsD K F φ (.ref a) (.dt kvs)
  | obj {a : Addr} {n : Nat} {p : List Addr} : φ[n]? = some (a :: p) → IsD K F φ (.ref a) (.obj n)
inductive IsDs (K : PySem.W.Frag) (F : Hp) (φ : Phi) : List V → List DV → Prop
  | nil : IsDs K F φ [] []
  | cons {v : V} {vs : List V} {d : DV} {ds : List DV} : IsD K F φ v d → IsDs K F φ vs ds → IsDs K F φ (v :: vs) (d :: ds)
end

/-- what stands frozen in F stands so in F' -/
def FExt (F F' : Hp) : Prop := ∀ a o, F a = some o → F' a = some o
def PExt (φ φ' : Phi) : Prop := ∃ ψ, φ' = φ ++ ψ
theorem FExt.refl (F : Hp) : FExt F F := fun _ _ h => h
theorem FExt.trans {F F1 F2 : Hp} (h : FExt F F1) (h' : FExt F1 F2) : FExt F F2 := fun a o e => h' a o (h a o e)
theorem PExt.refl (φ : Phi) : PExt φ φ := ⟨[], by simp⟩
theorem PExt.trans {φ φ1 φ2 : Phi} (h : PExt φ φ1) (h' : PExt φ1 φ2) : PExt φ φ2 := by
  obtain ⟨p, rfl⟩ := h
  obtain ⟨q, rfl⟩ := h'
  exact ⟨p ++ q, by rw [List.append_assoc]⟩
theorem PExt.get {φ φ' : Phi} (h : PExt φ φ') {n : Nat} {p : List Addr} (e : φ[n]? = some p) : φ'[n]? = some p := by
  obtain ⟨q, rfl⟩ := h
  rw [List.getElem?_append_left (List.getElem?_eq_some_iff.mp e).1]
  exact e
theorem sqT_mono {K : PySem.W.Frag} {F F' : Hp} {a : Addr} {xs : List V} (k : FExt F F') (h : SqT K F a xs) : SqT K F' a xs := by
  rcases h with (h | ⟨o, h⟩) | h
  · exact .inl (.inl (k _ _ h))
  · exact .inl (.inr ⟨o, k _ _ h⟩)
  · exact .inr h
theorem ScrAt.mono {K : PySem.W.Frag} {F F' : Hp} {a : Addr} {ns : List Int} (k : FExt F F') (h : ScrAt K F a ns) : ScrAt K F' a ns := by
  rcases h with ⟨o, h⟩ | h
  · exact .inl ⟨o, k _ _ h⟩
  · exact .inr h
mutual
theorem IsD.mono {K : PySem.W.Frag} {F F' : Hp} {φ φ' : Phi} (k : FExt F F') (p : PExt φ φ') : ∀ {v : V} {d : DV}, IsD K F φ v d → IsD K F' φ' v d
  | _, _, .non => .non
  | _, _, .bl b => .bl b
  | _, _, .int i => .int i
  | _, _, .str x => .str x
  | _, _, .tup h r => .tup (sqT_mono k h) (IsDs.mono k p r)
  | _, _, .lst h r => .lst (k _ _ h) (IsDs.mono k p r)
  | _, _, .scr h => .scr (h.mono k)
  | _, _, .dk h e r => .dk (k _ _ h) e (IsDs.mono k p r)
  | _, _, .dt h e r => .dt (k _ _ h) e (IsDs.mono k p r)
  | _, _, .obj h => .obj (p.get h)
theorem IsDs.mono {K : PySem.W.Frag} {F F' : Hp} {φ φ' : Phi} (k : FExt F F') (p : PExt φ φ') : ∀ {v : List V} {d : List DV}, IsDs K F φ v d → IsDs K F' φ' v d
  | _, _, .nil => .nil
  | _, _, .cons h r => .cons (IsD.mono k p h) (IsDs.mono k p r)
end
/-- tuples and known things of F stand in F' -/
def FTup (F F' : Hp) : Prop := (∀ a xs, F a = some (.tup xs) → F' a = some (.tup xs)) ∧ ∀ a o u, F a = some (.frz o u) → F' a = some (.frz o u)
theorem sqT_drop {K : PySem.W.Frag} {F F' : Hp} {a : Addr} {xs : List V} (k : FTup F F') (h : SqT K F a xs) : SqT K F' a xs := by
  rcases h with (h | ⟨o, h⟩) | h
  · exact .inl (.inl (k.1 _ _ h))
  · exact .inl (.inr ⟨o, k.2 _ _ _ h⟩)
  · exact .inr h
theorem ScrAt.drop {K : PySem.W.Frag} {F F' : Hp} {a : Addr} {ns : List Int} (k : FTup F F') (h : ScrAt K F a ns) : ScrAt K F' a ns := by
  rcases h with ⟨o, h⟩ | h
  · exact .inl ⟨o, k.2 _ _ _ h⟩
  · exact .inr h
theorem and_l {a b : Bool} (h : (a && b) = true) : a = true := (Bool.and_eq_true_iff.mp h).1
theorem and_r {a b : Bool} (h : (a && b) = true) : b = true := (Bool.and_eq_true_iff.mp h).2
mutual
theorem IsD.drop {K : PySem.W.Frag} {F F' : Hp} {φ : Phi} (k : FTup F F') : ∀ {v : V} {d : DV}, IsD K F φ v d → noL d = true → IsD K F' φ v d
  | _, _, .non, _ => .non
  | _, _, .bl b, _ => .bl b
  | _, _, .int i, _ => .int i
  | _, _, .str x, _ => .str x
  | _, _, .tup h r, n => .tup (sqT_drop k h) (IsDs.drop k r n)
  | _, _, .lst h r, n => by simp [noL] at n
  | _, _, .scr h, n => .scr (h.drop k)
  | _, _, .dk h e r, n => by simp [noL] at n
  | _, _, .dt h e r, n => by simp [noL] at n
  | _, _, .obj h, n => .obj h
theorem IsDs.drop {K : PySem.W.Frag} {F F' : Hp} {φ : Phi} (k : FTup F F') : ∀ {v : List V} {d : List DV}, IsDs K F φ v d → noLs d = true → IsDs K F' φ v d
  | _, _, .nil, _ => .nil
  | _, _, .cons h r, n => .cons (IsD.drop k h (and_l n)) (IsDs.drop k r (and_r n))
end
/-- objects that are not named may go -/
theorem noO_lt {φ φ' : Phi} : True := trivial
mutual
theorem IsD.unobj {K : PySem.W.Frag} {F : Hp} {φ φ' : Phi} : ∀ {v : V} {d : DV}, IsD K F φ v d → noO d = true → IsD K F φ' v d
  | _, _, .non, _ => .non
  | _, _, .bl b, _ => .bl b
  | _, _, .int i, _ => .int i
  | _, _, .str x, _ => .str x
  | _, _, .tup h r, n => .tup h (IsDs.unobj r n)
  | _, _, .lst h r, n => .lst h (IsDs.unobj r n)
  | _, _, .scr h, n => .scr h
  | _, _, .dk h e r, n => by simp [noO] at n
  | _, _, .dt h e r, n => by simp [noO] at n
  | _, _, .obj h, n => by simp [noO] at n
theorem IsDs.unobj {K : PySem.W.Frag} {F : Hp} {φ φ' : Phi} : ∀ {v : List V} {d : List DV}, IsDs K F φ v d → noOs d = true → IsDs K F φ' v d
  | _, _, .nil, _ => .nil
  | _, _, .cons h r, n => .cons (IsD.unobj h (and_l n)) (IsDs.unobj r (and_r n))
end
theorem IsDs.length {K : PySem.W.Frag} {F : Hp} {φ : Phi} : ∀ {v : List V} {d : List DV}, IsDs K F φ v d → v.length = d.length
  | _, _, .nil => rfl
  | _, _, .cons _ r => congrArg (· + 1) r.length
theorem IsDs.get {K : PySem.W.Frag} {F : Hp} {φ : Phi} : ∀ {vs : List V} {ds : List DV} {i : Nat} {d : DV}, IsDs K F φ vs ds → ds[i]? = some d → ∃ v, vs[i]? = some v ∧ IsD K F φ v d
  | _, _, _, _, .nil, e => by simp at e
  | _, _, 0, _, .cons h _, e => by simp at e; subst e; exact ⟨_, rfl, h⟩
  | _, _, i + 1, _, .cons _ r, e => by
    obtain ⟨v, h1, h2⟩ := IsDs.get (i := i) r (by simpa using e)
    exact ⟨v, by simpa using h1, h2⟩
theorem IsDs.getV {K : PySem.W.Frag} {F : Hp} {φ : Phi} : ∀ {vs : List V} {ds : List DV} {i : Nat} {v : V}, IsDs K F φ vs ds → vs[i]? = some v → ∃ d, ds[i]? = some d ∧ IsD K F φ v d
  | _, _, _, _, .nil, e => by simp at e
  | _, _, 0, _, .cons h _, e => by simp at e; subst e; exact ⟨_, rfl, h⟩
  | _, _, i + 1, _, .cons _ r, e => by
    obtain ⟨v, h1, h2⟩ := IsDs.getV (i := i) r (by simpa using e)
    exact ⟨v, by simpa using h1, h2⟩
theorem IsDs.append {K : PySem.W.Frag} {F : Hp} {φ : Phi} : ∀ {vs : List V} {ds : List DV} {ws : List V} {es : List DV}, IsDs K F φ vs ds → IsDs K F φ ws es → IsDs K F φ (vs ++ ws) (ds ++ es)
  | _, _, _, _, .nil, s => s
  | _, _, _, _, .cons h r, s => .cons h (IsDs.append r s)
theorem IsDs.set {K : PySem.W.Frag} {F : Hp} {φ : Phi} {x : V} {e : DV} (hx : IsD K F φ x e) : ∀ {vs : List V} {ds : List DV} (i : Nat), IsDs K F φ vs ds → IsDs K F φ (vs.set i x) (ds.set i e)
  | _, _, _, .nil => .nil
  | _, _, 0, .cons h r => .cons hx r
  | _, _, i + 1, .cons h r => .cons h (IsDs.set hx i r)
theorem IsDs.take {K : PySem.W.Frag} {F : Hp} {φ : Phi} : ∀ {vs : List V} {ds : List DV} (n : Nat), IsDs K F φ vs ds → IsDs K F φ (vs.take n) (ds.take n)
  | _, _, 0, _ => .nil
  | _, _, _ + 1, .nil => .nil
  | _, _, n + 1, .cons h r => .cons h (IsDs.take n r)
theorem IsDs.dropN {K : PySem.W.Frag} {F : Hp} {φ : Phi} : ∀ {vs : List V} {ds : List DV} (n : Nat), IsDs K F φ vs ds → IsDs K F φ (vs.drop n) (ds.drop n)
  | _, _, 0, r => r
  | _, _, _ + 1, .nil => .nil
  | _, _, n + 1, .cons _ r => IsDs.dropN n r
theorem IsDs.ints {K : PySem.W.Frag} {F : Hp} {φ : Phi} : ∀ {vs : List V} {ns : List Int}, IsDs K F φ vs (ns.map DV.int) → vs = ns.map V.int
  | _, [], .nil => rfl
  | _, n :: ns, .cons h r => by cases h; rw [IsDs.ints r]; rfl
theorem IsDs.of_ints {K : PySem.W.Frag} {F : Hp} {φ : Phi} : ∀ (ns : List Int), IsDs K F φ (ns.map V.int) (ns.map DV.int)
  | [] => .nil
  | n :: ns => .cons (.int n) (IsDs.of_ints ns)
theorem IsDs.bls {K : PySem.W.Frag} {F : Hp} {φ : Phi} : ∀ {vs : List V} {ns : List Bool}, IsDs K F φ vs (ns.map DV.bl) → vs = ns.map V.bl
  | _, [], .nil => rfl
  | _, n :: ns, .cons h r => by cases h; rw [IsDs.bls r]; rfl
theorem IsDs.strs {K : PySem.W.Frag} {F : Hp} {φ : Phi} : ∀ {vs : List V} {ns : List Str}, IsDs K F φ vs (ns.map DV.str) → vs = ns.map V.str
  | _, [], .nil => rfl
  | _, n :: ns, .cons h r => by cases h; rw [IsDs.strs r]; rfl

/-! ### contexts -/
structure DC where
  /-- the addresses of own classes by name -/
  ca : Str → Option Addr
  /-- tables of code objects (for lambdas) -/
  tb : List (Addr × Str)

/-- an instance's fields -/
def FsOk (K : PySem.W.Frag) (F : Hp) (φ : Phi) (vs : List (Str × V)) (fs : List (Str × DV)) : Prop := vs.map (·.1) = fs.map (·.1) ∧ IsDs K F φ (vs.map (·.2)) (fs.map (·.2)) ∧ noLs (fs.map (·.2)) = true
/-- an object of the store at its addresses -/
def ObOk (K : PySem.W.Frag) (c : DC) (H F : Hp) (φ : Phi) : List Addr → DO → Prop
  | p, .tape cells seed => ∃ a b, p = [a, b] ∧ H a = some (.lst [.ref b, .int seed]) ∧ H b = some (.lst (cells.map V.int))
  | p, .ins x fs => ∃ a dx C vs, p = [a, dx] ∧ c.ca x = some C ∧ H a = some (.ins C dx vs) ∧ H dx = some (.own a) ∧ FsOk K F φ vs fs
/-- where a run began -/
structure Bs where
  H0 : Hp
  F0 : Hp
  p0 : Phi

structure Core (K : PySem.W.Frag) (c : DC) (B : Bs) (F H : Hp) (φ : Phi) (S : List DO) : Prop where
  f0 : FExt B.F0 F
  fh : FExt F H
  fn : ∀ a o, F a = some o → B.F0 a = some o ∨ B.H0 a = none
  kp : ∀ a o, B.H0 a = some o → a ∉ B.p0.flatten → (∀ ps, o ≠ .tbl ps) → H a = some o
  ex : ∀ a, B.H0 a ≠ none → H a ≠ none
  ph : ∃ ψ : Phi, φ = B.p0 ++ ψ ∧ ∀ a ∈ ψ.flatten, B.H0 a = none
  nd : φ.flatten.Nodup
  pf : ∀ a ∈ φ.flatten, F a = none
  ln : φ.length = S.length
  ob : ∀ (i : Nat) p o, φ[i]? = some p → S[i]? = some o → ObOk K c H F φ p o
  tb : LamX.Tabs c.tb H
  ft : ∀ a ps, F a ≠ some (.tbl ps)

/-- slots of a def's frame -/
inductive SL where
  | emp | val (d : DV) | ol (l : List DV) | ok (l : List (Key × DV)) | ot (l : List (List Key × DV))
def SL.own : SL → Bool
  | .emp => false
  | .val _ => false
  | _ => true
def SL.view : SL → Option DV
  | .emp => none
  | .val d => some d
  | .ol l => some (.lst l)
  | .ok l => some (.dk l)
  | .ot l => some (.dt l)
/-- all is frozen -/
def SL.frz : SL → SL
  | .emp => .emp
  | .val d => .val d
  | .ol l => .val (.lst l)
  | .ok l => .val (.dk l)
  | .ot l => .val (.dt l)
def frzA (ρ : List SL) : List SL := ρ.map SL.frz
def IsHO (K : PySem.W.Frag) (F : Hp) (φ : Phi) : HO → SL → Prop
  | u, .ol l => ∃ xs, u = .lst xs ∧ IsDs K F φ xs l
  | u, .ok l => ∃ ks, u = .dK ks ∧ ks.map (·.1) = l.map (·.1) ∧ IsDs K F φ (ks.map (·.2)) (l.map (·.2))
  | u, .ot l => ∃ ks, u = .dT ks ∧ ks.map (·.1) = l.map (·.1) ∧ IsDs K F φ (ks.map (·.2)) (l.map (·.2))
  | _, _ => False
def SlOk (K : PySem.W.Frag) (B : Bs) (F H : Hp) (φ : Phi) (x : Option (Option V)) : SL → Prop
  | .emp => True
  | .val d => ∃ v, x = some (some v) ∧ IsD K F φ v d
  | s => ∃ a u, x = some (some (.ref a)) ∧ F a = none ∧ a ∉ φ.flatten ∧ B.H0 a = none ∧ H a = some u ∧ IsHO K F φ u s

def SlE (K : PySem.W.Frag) (F H : Hp) (φ : Phi) (x : Option (Option V)) : SL → Prop
  | .emp => True
  | .val d => ∃ v, x = some (some v) ∧ IsD K F φ v d
  | s => ∃ a u, x = some (some (.ref a)) ∧ F a = none ∧ a ∉ φ.flatten ∧ H a = some u ∧ IsHO K F φ u s
/-- within an expression -/
structure RelE (K : PySem.W.Frag) (c : DC) (B : Bs) (F H : Hp) (φ : Phi) (σ : St) (ρ : List SL) (S : List DO) : Prop where
  core : Core K c B F H φ S
  len : σ.length = ρ.length
  sl : ∀ (i : Nat) s, ρ[i]? = some s → SlE K F H φ σ[i]? s

structure RelS (K : PySem.W.Frag) (c : DC) (B : Bs) (F H : Hp) (φ : Phi) (σ : St) (ρ : List SL) (S : List DO) : Prop where
  core : Core K c B F H φ S
  len : σ.length = ρ.length
  sl : ∀ (i : Nat) s, ρ[i]? = some s → SlOk K B F H φ σ[i]? s
  ap : ∀ (i j : Nat) s t a, ρ[i]? = some s → ρ[j]? = some t → s.own = true → t.own = true → σ[i]? = some (some (.ref a)) → σ[j]? = some (some (.ref a)) → i = j

theorem IsHO.mono {K : PySem.W.Frag} {F F' : Hp} {φ φ' : Phi} (k : FExt F F') (p : PExt φ φ') {u : HO} {s : SL} (h : IsHO K F φ u s) : IsHO K F' φ' u s := by
  cases s with
  | emp => exact h
  | val d => exact h
  | ol l => obtain ⟨xs, e, h⟩ := h; exact ⟨xs, e, h.mono k p⟩
  | ok l => obtain ⟨xs, e, e2, h⟩ := h; exact ⟨xs, e, e2, h.mono k p⟩
  | ot l => obtain ⟨xs, e, e2, h⟩ := h; exact ⟨xs, e, e2, h.mono k p⟩
theorem IsHO.own {K : PySem.W.Frag} {F : Hp} {φ : Phi} {u : HO} {s : SL} (h : IsHO K F φ u s) : s.own = true := by
  cases s <;> first | rfl | exact h.elim
theorem IsHO.notbl {K : PySem.W.Frag} {F : Hp} {φ : Phi} {u : HO} {s : SL} (h : IsHO K F φ u s) : (∀ ps, u ≠ .tbl ps) ∧ (∀ xs, u ≠ .tup xs) ∧ (∀ o w, u ≠ .frz o w) := by
  cases s with
  | emp => exact h.elim
  | val d => exact h.elim
  | ol l => obtain ⟨xs, rfl, _⟩ := h; exact ⟨(fun _ e => nomatch e), (fun _ e => nomatch e), fun _ _ e => nomatch e⟩
  | ok l => obtain ⟨xs, rfl, _⟩ := h; exact ⟨(fun _ e => nomatch e), (fun _ e => nomatch e), fun _ _ e => nomatch e⟩
  | ot l => obtain ⟨xs, rfl, _⟩ := h; exact ⟨(fun _ e => nomatch e), (fun _ e => nomatch e), fun _ _ e => nomatch e⟩
theorem SlOk.at {K : PySem.W.Frag} {B : Bs} {F H : Hp} {φ : Phi} {x : Option (Option V)} {s : SL} (h : SlOk K B F H φ x s) (ho : s.own = true) :
    ∃ a u, x = some (some (.ref a)) ∧ F a = none ∧ a ∉ φ.flatten ∧ B.H0 a = none ∧ H a = some u ∧ IsHO K F φ u s := by
  cases s <;> first | (cases ho; done) | exact h
theorem SlE.at {K : PySem.W.Frag} {F H : Hp} {φ : Phi} {x : Option (Option V)} {s : SL} (h : SlE K F H φ x s) (ho : s.own = true) :
    ∃ a u, x = some (some (.ref a)) ∧ F a = none ∧ a ∉ φ.flatten ∧ H a = some u ∧ IsHO K F φ u s := by
  cases s <;> first | (cases ho; done) | exact h
theorem SlE.mk {K : PySem.W.Frag} {F H : Hp} {φ : Phi} {x : Option (Option V)} {s : SL} (ho : s.own = true)
    (h : ∃ a u, x = some (some (.ref a)) ∧ F a = none ∧ a ∉ φ.flatten ∧ H a = some u ∧ IsHO K F φ u s) : SlE K F H φ x s := by
  cases s <;> first | (cases ho; done) | exact h
theorem SlOk.mk {K : PySem.W.Frag} {B : Bs} {F H : Hp} {φ : Phi} {x : Option (Option V)} {s : SL} (ho : s.own = true)
    (h : ∃ a u, x = some (some (.ref a)) ∧ F a = none ∧ a ∉ φ.flatten ∧ B.H0 a = none ∧ H a = some u ∧ IsHO K F φ u s) : SlOk K B F H φ x s := by
  cases s <;> first | (cases ho; done) | exact h
/-- what a slot holds, seen in an expression -/
theorem IsHO.isD {K : PySem.W.Frag} {F : Hp} {φ : Phi} {u : HO} {s : SL} {a : Addr} {d : DV} (h : IsHO K F φ u s) (e : F a = some u) (hv : s.view = some d) : IsD K F φ (.ref a) d := by
  cases s with
  | emp => exact h.elim
  | val d => exact h.elim
  | ol l => obtain ⟨xs, rfl, h⟩ := h; cases hv; exact .lst e h
  | ok l => obtain ⟨xs, rfl, e2, h⟩ := h; cases hv; exact .dk e e2 h
  | ot l => obtain ⟨xs, rfl, e2, h⟩ := h; cases hv; exact .dt e e2 h

/-! ### from slots to an expression and back -/
def OwnS (σ : St) (ρ : List SL) (b : Addr) : Prop := ∃ (i : Nat) (s : SL), ρ[i]? = some s ∧ s.own = true ∧ σ[i]? = some (some (.ref b))
open Classical in
/-- with the slots' own things frozen -/
noncomputable def fzn (F H : Hp) (σ : St) (ρ : List SL) : Hp := fun b => if OwnS σ ρ b then H b else F b
open Classical in
/-- without the addresses of P -/
noncomputable def cut (F : Hp) (P : Addr → Prop) : Hp := fun b => if P b then none else F b
theorem cut_neg {F : Hp} {P : Addr → Prop} {b : Addr} (h : ¬ P b) : cut F P b = F b := by unfold cut; rw [if_neg h]
theorem cut_pos {F : Hp} {P : Addr → Prop} {b : Addr} (h : P b) : cut F P b = none := by unfold cut; rw [if_pos h]
theorem cut_some {F : Hp} {P : Addr → Prop} {b : Addr} {o : HO} (h : cut F P b = some o) : ¬ P b ∧ F b = some o := by
  by_cases hp : P b
  · rw [cut_pos hp] at h; cases h
  · rw [cut_neg hp] at h; exact ⟨hp, h⟩
section
variable {K : PySem.W.Frag} {c : DC} {B : Bs} {F H F' H' : Hp} {φ φ' : Phi} {σ : St} {ρ : List SL} {S S' : List DO}
theorem ObOk.mono (k : FExt F F') (p : PExt φ φ') {q : List Addr} {o : DO} (h : ObOk K c H F φ q o) : ObOk K c H F' φ' q o := by
  cases o with
  | tape cells seed => exact h
  | ins x fs =>
    obtain ⟨a, dx, C, vs, e, e1, e2, e3, e4, e5, e6⟩ := h
    exact ⟨a, dx, C, vs, e, e1, e2, e3, e4, e5.mono k p, e6⟩
theorem ObOk.drop (k : FTup F F') {q : List Addr} {o : DO} (h : ObOk K c H F φ q o) : ObOk K c H F' φ q o := by
  cases o with
  | tape cells seed => exact h
  | ins x fs =>
    obtain ⟨a, dx, C, vs, e, e1, e2, e3, e4, e5, e6⟩ := h
    exact ⟨a, dx, C, vs, e, e1, e2, e3, e4, e5.drop k e6, e6⟩
/-- an object's description hangs on its own addresses -/
theorem ObOk.stay (k : ∀ a ∈ q, ∀ o, H a = some o → H' a = some o) {o : DO} (h : ObOk K c H F φ q o) : ObOk K c H' F φ q o := by
  cases o with
  | tape cells seed =>
    obtain ⟨a, b, rfl, h1, h2⟩ := h
    exact ⟨a, b, rfl, k a (by simp) _ h1, k b (by simp) _ h2⟩
  | ins x fs =>
    obtain ⟨a, dx, C, vs, rfl, e1, e2, e3, e4⟩ := h
    exact ⟨a, dx, C, vs, rfl, e1, k a (by simp) _ e2, k dx (by simp) _ e3, e4⟩
theorem ObOk.there {q : List Addr} {o : DO} (h : ObOk K c H F φ q o) : ∀ a ∈ q, H a ≠ none := by
  cases o with
  | tape cells seed =>
    obtain ⟨a, b, rfl, h1, h2⟩ := h
    intro x hx
    simp only [List.mem_cons, List.not_mem_nil, or_false] at hx
    rcases hx with rfl | rfl
    · rw [h1]; simp
    · rw [h2]; simp
  | ins x fs =>
    obtain ⟨a, dx, C, vs, rfl, e1, e2, e3, e4⟩ := h
    intro x hx
    simp only [List.mem_cons, List.not_mem_nil, or_false] at hx
    rcases hx with rfl | rfl
    · rw [e2]; simp
    · rw [e3]; simp
theorem Core.phi_there (C : Core K c B F H φ S) : ∀ a ∈ φ.flatten, H a ≠ none := fun a ha => by
  obtain ⟨p, hp, hap⟩ := List.mem_flatten.mp ha
  obtain ⟨i, hi⟩ := List.mem_iff_getElem?.mp hp
  have hl : i < S.length := by rw [← C.ln]; exact (List.getElem?_eq_some_iff.mp hi).1
  exact (C.ob i p S[i] hi (List.getElem?_eq_getElem hl)).there a hap
theorem Core.pext (C : Core K c B F H φ S) : PExt B.p0 φ := let ⟨ψ, e, _⟩ := C.ph; ⟨ψ, e⟩
/-- the base where a run begins -/
theorem Core.start (C : Core K c B F H φ S) : Core K c ⟨H, F, φ⟩ F H φ S :=
  ⟨FExt.refl _, C.fh, fun _ _ h => .inl h, fun _ _ h _ _ => h, fun _ h => h, ⟨[], by simp, by simp⟩, C.nd, C.pf, C.ln, C.ob, C.tb, C.ft⟩
/-- a run within a run -/
theorem Core.trans (C : Core K c B F H φ S) (C' : Core K c ⟨H, F, φ⟩ F' H' φ' S') : Core K c B F' H' φ' S' := by
  obtain ⟨ψ, e1, h1⟩ := C.ph
  obtain ⟨ψ', e2, h2⟩ := C'.ph
  have hnone : ∀ a, H a = none → B.H0 a = none := fun a h => by
    cases q : B.H0 a with
    | none => rfl
    | some o => exact absurd h (C.ex a (by rw [q]; simp))
  refine ⟨C.f0.trans C'.f0, C'.fh, fun a o h => ?_, fun a o h hp ht => ?_, fun a h => C'.ex a (C.ex a h), ⟨ψ ++ ψ', by rw [e2, e1, List.append_assoc], fun a ha => ?_⟩, C'.nd, C'.pf, C'.ln, C'.ob, C'.tb, C'.ft⟩
  · rcases C'.fn a o h with h | h
    · exact C.fn a o h
    · exact .inr (hnone a h)
  · refine C'.kp a o (C.kp a o h hp ht) (fun ha => ?_) ht
    have ha : a ∈ φ.flatten := ha
    rw [e1, List.flatten_append, List.mem_append] at ha
    rcases ha with ha | ha
    · exact hp ha
    · rw [h1 a ha] at h; cases h
  · rw [List.flatten_append, List.mem_append] at ha
    rcases ha with ha | ha
    · exact h1 a ha
    · exact hnone a (h2 a ha)
/-- frozen things of the kinds list and dict are let go at P -/
theorem Core.cut (C : Core K c B F H φ S) (P : Addr → Prop) (h0 : ∀ a, P a → B.F0 a = none) (ht : ∀ a, P a → (∀ xs, F a ≠ some (.tup xs)) ∧ ∀ o u, F a ≠ some (.frz o u)) : Core K c B (cut F P) H φ S := by
  have ft : FTup F (DL.cut F P) := ⟨fun a xs e => by rw [cut_neg fun h => (ht a h).1 xs e]; exact e, fun a o u e => by rw [cut_neg fun h => (ht a h).2 o u e]; exact e⟩
  refine ⟨fun a o h => ?_, fun a o h => C.fh a o (cut_some h).2, fun a o h => C.fn a o (cut_some h).2, C.kp, C.ex, C.ph, C.nd, fun a ha => ?_, C.ln, fun i p o h1 h2 => (C.ob i p o h1 h2).drop ft, C.tb, fun a ps h => C.ft a ps (cut_some h).2⟩
  · rw [cut_neg fun hp => by rw [h0 a hp] at h; cases h]
    exact C.f0 a o h
  · by_cases hp : P a
    · exact cut_pos hp
    · rw [cut_neg hp]; exact C.pf a ha
theorem cut_tup (P : Addr → Prop) (ht : ∀ a, P a → (∀ xs, F a ≠ some (.tup xs)) ∧ ∀ o u, F a ≠ some (.frz o u)) : FTup F (cut F P) :=
  ⟨fun a xs e => by rw [cut_neg fun h => (ht a h).1 xs e]; exact e, fun a o u e => by rw [cut_neg fun h => (ht a h).2 o u e]; exact e⟩

theorem RelE.ownAt (R : RelE K c B F H φ σ ρ S) {b : Addr} (h : OwnS σ ρ b) : ∃ (i : Nat) (s : SL) (u : HO), ρ[i]? = some s ∧ s.own = true ∧ σ[i]? = some (some (.ref b)) ∧ F b = none ∧ b ∉ φ.flatten ∧ H b = some u ∧ IsHO K F φ u s := by
  obtain ⟨i, s, h1, h2, h3⟩ := h
  obtain ⟨a, u, e, g1, g2, g4, g5⟩ := (R.sl i s h1).at h2
  rw [h3] at e
  cases e
  exact ⟨i, s, u, h1, h2, h3, g1, g2, g4, g5⟩
theorem RelS.enter (R : RelS K c B F H φ σ ρ S) : RelE K c ⟨H, F, φ⟩ F H φ σ ρ S := by
  refine ⟨R.core.start, R.len, fun i s hs => ?_⟩
  have q := R.sl i s hs
  by_cases ho : s.own = true
  · obtain ⟨a, u, e, g1, g2, g3, g4, g5⟩ := q.at ho
    exact .mk ho ⟨a, u, e, g1, g2, g4, g5⟩
  · cases s with
    | val d => exact q
    | emp => trivial
    | _ => exact absurd rfl ho
/-- behind a run that changed no slot -/
theorem RelE.after (R : RelE K c B F H φ σ ρ S) (E : Core K c ⟨H, F, φ⟩ F' H' φ' S') : RelE K c B F' H' φ' σ ρ S' := by
  refine ⟨R.core.trans E, R.len, fun i s hs => ?_⟩
  have q := R.sl i s hs
  have fe : FExt F F' := E.f0
  have pe : PExt φ φ' := E.pext
  by_cases ho : s.own = true
  · obtain ⟨a, u, e, g1, g2, g4, g5⟩ := q.at ho
    obtain ⟨ψ', e2, h2⟩ := E.ph
    refine .mk ho ⟨a, u, e, ?_, fun ha => ?_, E.kp a u g4 g2 g5.notbl.1, g5.mono fe pe⟩
    · cases q : F' a with
      | none => rfl
      | some w =>
        rcases E.fn a w q with z | z
        · rw [show F a = some w from z] at g1; cases g1
        · rw [show H a = none from z] at g4; cases g4
    · rw [e2, List.flatten_append, List.mem_append] at ha
      rcases ha with ha | ha
      · exact g2 ha
      · rw [show H a = none from h2 a ha] at g4; cases g4
  · cases s with
    | val d =>
      obtain ⟨v, e, g⟩ := q
      exact ⟨v, e, g.mono fe pe⟩
    | emp => trivial
    | _ => exact absurd rfl ho
theorem Core.none0 (C : Core K c B F H φ S) {a : Addr} (h : H a = none) : B.H0 a = none := by
  cases q : B.H0 a with
  | none => rfl
  | some o => exact absurd h (C.ex a (by rw [q]; simp))
theorem RelS.after (R : RelS K c B F H φ σ ρ S) (E : Core K c ⟨H, F, φ⟩ F' H' φ' S') : RelS K c B F' H' φ' σ ρ S' := by
  have RE : RelE K c ⟨H, F, φ⟩ F' H' φ' σ ρ S' := R.enter.after E
  refine ⟨R.core.trans E, R.len, fun i s hs => ?_, R.ap⟩
  by_cases ho : s.own = true
  · obtain ⟨a, u, e, g1, g2, g3, g4, g5⟩ := (R.sl i s hs).at ho
    obtain ⟨a', u', e', k1, k2, k4, k5⟩ := (RE.sl i s hs).at ho
    rw [e] at e'
    cases e'
    exact .mk ho ⟨a, u', e, k1, k2, g3, k4, k5⟩
  · cases s with
    | val d => exact RE.sl i _ hs
    | emp => trivial
    | _ => exact absurd rfl ho
theorem fzn_ext (R : RelE K c B F H φ σ ρ S) : FExt F (fzn F H σ ρ) := fun a o h => by
  unfold fzn
  rw [if_neg fun ho => by obtain ⟨_, _, _, _, _, _, g, _⟩ := R.ownAt ho; rw [h] at g; cases g]
  exact h
/-- the slots' own things are frozen for a while -/
theorem RelE.bor (R : RelE K c B F H φ σ ρ S) : RelE K c ⟨H, fzn F H σ ρ, φ⟩ (fzn F H σ ρ) H φ σ (frzA ρ) S := by
  have C := R.core
  have fe := fzn_ext R
  refine ⟨⟨FExt.refl _, fun a o h => ?_, fun _ _ h => .inl h, fun _ _ h _ _ => h, fun _ h => h, ⟨[], by simp, by simp⟩, C.nd, fun a ha => ?_, C.ln, fun i p o h1 h2 => (C.ob i p o h1 h2).mono fe (PExt.refl _), C.tb, fun a ps h => ?_⟩, by unfold frzA; rw [List.length_map]; exact R.len, fun i d h => ?_⟩
  · unfold fzn at h
    split at h
    · exact h
    · exact C.fh a o h
  · unfold fzn
    rw [if_neg fun ho => by obtain ⟨_, _, _, _, _, _, _, g, _⟩ := R.ownAt ho; exact g ha]
    exact C.pf a ha
  · unfold fzn at h
    split at h
    · rename_i ho
      obtain ⟨_, _, u, _, _, _, _, _, g, gi⟩ := R.ownAt ho
      rw [g] at h
      exact gi.notbl.1 ps (Option.some.inj h)
    · exact C.ft a ps h
  · unfold frzA at h
    rw [List.getElem?_map] at h
    cases q : ρ[i]? with
    | none => rw [q] at h; cases h
    | some s =>
      rw [q] at h
      have hv : s.frz = d := Option.some.inj h
      subst hv
      by_cases ho : s.own = true
      · obtain ⟨a, u, e, g1, g2, g4, g5⟩ := (R.sl i s q).at ho
        have hz : fzn F H σ ρ a = some u := by
          unfold fzn
          rw [if_pos ⟨i, s, q, ho, e⟩]
          exact g4
        have g6 := g5.mono fe (PExt.refl _)
        cases s with
        | emp => cases ho
        | val d => cases ho
        | ol l => exact ⟨.ref a, e, g6.isD hz rfl⟩
        | ok l => exact ⟨.ref a, e, g6.isD hz rfl⟩
        | ot l => exact ⟨.ref a, e, g6.isD hz rfl⟩
      · cases s with
        | val d' =>
          obtain ⟨v, e, g⟩ := R.sl i _ q
          exact ⟨v, e, g.mono fe (PExt.refl _)⟩
        | emp => trivial
        | _ => exact absurd rfl ho
theorem own_kind (R : RelE K c B F H φ σ ρ S) (E : Core K c ⟨H, fzn F H σ ρ, φ⟩ F' H' φ' S') {a : Addr} (h : OwnS σ ρ a) : ∃ u, H a = some u ∧ F' a = some u ∧ (∀ xs, u ≠ .tup xs) ∧ ∀ o w, u ≠ .frz o w := by
  obtain ⟨_, _, u, _, _, _, _, _, g, gi⟩ := R.ownAt h
  refine ⟨u, g, E.f0 a u ?_, gi.notbl.2⟩
  show fzn F H σ ρ a = some u
  unfold fzn
  rw [if_pos h]
  exact g
theorem own_tup (R : RelE K c B F H φ σ ρ S) (E : Core K c ⟨H, fzn F H σ ρ, φ⟩ F' H' φ' S') : ∀ a, OwnS σ ρ a → (∀ xs, F' a ≠ some (.tup xs)) ∧ ∀ o u, F' a ≠ some (.frz o u) := fun a h => by
  obtain ⟨u, _, g, g1, g2⟩ := own_kind R E h
  rw [g]
  exact ⟨fun xs e => g1 xs (Option.some.inj e), fun o w e => g2 o w (Option.some.inj e)⟩
/-- .. and let go -/
theorem RelE.unbor (R : RelE K c B F H φ σ ρ S) (E : Core K c ⟨H, fzn F H σ ρ, φ⟩ F' H' φ' S') : Core K c ⟨H, F, φ⟩ (DL.cut F' (OwnS σ ρ)) H' φ' S' := by
  have ft := cut_tup (F := F') (OwnS σ ρ) (own_tup R E)
  have fe := fzn_ext R
  refine ⟨fun a o h => ?_, fun a o h => E.fh a o (cut_some h).2, fun a o h => ?_, E.kp, E.ex, E.ph, E.nd, fun a ha => ?_, E.ln, fun i p o h1 h2 => (E.ob i p o h1 h2).drop ft, E.tb, fun a ps h => E.ft a ps (cut_some h).2⟩
  · have h : F a = some o := h
    rw [cut_neg fun ho => by obtain ⟨_, _, _, _, _, _, g, _⟩ := R.ownAt ho; rw [h] at g; cases g]
    exact E.f0 a o (fe a o h)
  · obtain ⟨hn, h⟩ := cut_some h
    rcases E.fn a o h with h | h
    · have h : fzn F H σ ρ a = some o := h
      unfold fzn at h
      rw [if_neg hn] at h
      exact .inl h
    · exact .inr h
  · by_cases hq : OwnS σ ρ a
    · exact cut_pos hq
    · rw [cut_neg hq]; exact E.pf a ha
/-- a slot is given a value -/
theorem RelS.setVal (R : RelS K c B F H φ σ ρ S) (i : Nat) {v : V} {d : DV} (hi : i < ρ.length) (h : IsD K F φ v d) : RelS K c B F H φ (σ.set i (some v)) (ρ.set i (.val d)) S := by
  refine ⟨R.core, by rw [List.length_set, List.length_set]; exact R.len, fun j s hs => ?_, fun j l s t a h1 h2 o1 o2 e1 e2 => ?_⟩
  · by_cases hj : i = j
    · subst hj
      rw [List.getElem?_set_self hi] at hs
      cases hs
      rw [List.getElem?_set_self (by rw [R.len]; exact hi)]
      exact ⟨v, rfl, h⟩
    · rw [List.getElem?_set_ne hj] at hs
      rw [List.getElem?_set_ne hj]
      exact R.sl j s hs
  · by_cases hj : i = j
    · subst hj
      rw [List.getElem?_set_self hi] at h1
      cases h1
      cases o1
    · by_cases hl : i = l
      · subst hl
        rw [List.getElem?_set_self hi] at h2
        cases h2
        cases o2
      · rw [List.getElem?_set_ne hj] at h1 e1
        rw [List.getElem?_set_ne hl] at h2 e2
        exact R.ap j l s t a h1 h2 o1 o2 e1 e2
/-- a slot comes to own a thing that no slot owns -/
theorem RelS.setOwn (R : RelS K c B F H φ σ ρ S) (i : Nat) {a : Addr} {u : HO} {s : SL} (hi : i < ρ.length) (hu : H a = some u) (hF : F a = none) (hp : a ∉ φ.flatten) (hB : B.H0 a = none) (hn : ¬ OwnS σ ρ a) (hs : IsHO K F φ u s) :
    RelS K c B F H φ (σ.set i (some (.ref a))) (ρ.set i s) S := by
  refine ⟨R.core, by rw [List.length_set, List.length_set]; exact R.len, fun j t ht => ?_, fun j l t r b h1 h2 o1 o2 e1 e2 => ?_⟩
  · by_cases hj : i = j
    · subst hj
      rw [List.getElem?_set_self hi] at ht
      cases ht
      rw [List.getElem?_set_self (by rw [R.len]; exact hi)]
      exact .mk hs.own ⟨a, u, rfl, hF, hp, hB, hu, hs⟩
    · rw [List.getElem?_set_ne hj] at ht
      rw [List.getElem?_set_ne hj]
      exact R.sl j t ht
  · have hiσ : i < σ.length := by rw [R.len]; exact hi
    by_cases hj : i = j
    · subst hj
      rw [List.getElem?_set_self hiσ] at e1
      cases e1
      by_cases hl : i = l
      · exact hl
      · rw [List.getElem?_set_ne hl] at h2 e2
        exact absurd ⟨l, r, h2, o2, e2⟩ hn
    · by_cases hl : i = l
      · subst hl
        rw [List.getElem?_set_self hiσ] at e2
        cases e2
        rw [List.getElem?_set_ne hj] at h1 e1
        exact absurd ⟨j, t, h1, o1, e1⟩ hn
      · rw [List.getElem?_set_ne hj] at h1 e1
        rw [List.getElem?_set_ne hl] at h2 e2
        exact R.ap j l t r b h1 h2 o1 o2 e1 e2
/-- an own thing is changed -/
theorem RelS.chg (R : RelS K c B F H φ σ ρ S) {i : Nat} {a : Addr} {u u' : HO} {s s' : SL} (hi : ρ[i]? = some s) (ho : s.own = true) (ha : σ[i]? = some (some (.ref a))) (hu : H a = some u) (hs : IsHO K F φ u' s') :
    RelS K c B F (upd H a u') φ σ (ρ.set i s') S := by
  have C := R.core
  obtain ⟨a', u₁, e, g1, g2, g3, g4, g5⟩ := (R.sl i s hi).at ho
  rw [ha] at e
  cases e
  have hlt : i < ρ.length := (List.getElem?_eq_some_iff.mp hi).1
  refine ⟨⟨C.f0, fun b o h => ?_, C.fn, fun b o h hp ht => ?_, fun b h => ?_, C.ph, C.nd, C.pf, C.ln, fun j p o h1 h2 => (C.ob j p o h1 h2).stay fun b hb o h => ?_, fun p hp => ?_, C.ft⟩, by rw [List.length_set]; exact R.len, fun j t ht => ?_, fun j l t r b h1 h2 o1 o2 e1 e2 => ?_⟩
  · rw [upd_ne fun z => by rw [z, g1] at h; cases h]
    exact C.fh b o h
  · rw [upd_ne fun z => by rw [z, g3] at h; cases h]
    exact C.kp b o h hp ht
  · by_cases z : b = a
    · subst z; rw [upd_same]; simp
    · rw [upd_ne z]; exact C.ex b h
  · rw [upd_ne fun z => g2 (by rw [← z]; exact List.mem_flatten.mpr ⟨p, List.mem_of_getElem? h1, hb⟩)]
    exact h
  · obtain ⟨ps, t1, t2, t3⟩ := C.tb p hp
    have np : p.1 ≠ a := fun z => by rw [z, g4] at t1; exact g5.notbl.1 ps (Option.some.inj t1)
    refine ⟨ps, by rw [upd_ne np]; exact t1, t2, fun pos cv hc => ?_⟩
    obtain ⟨x, e1, e2⟩ := t3 pos cv hc
    refine ⟨x, e1, ?_⟩
    rw [upd_ne fun z => ?_]
    · exact e2
    · rw [z, g4] at e2
      have e2 := Option.some.inj e2
      cases s with
      | emp => cases ho
      | val d => cases ho
      | ol l => obtain ⟨xs, rfl, _⟩ := g5; unfold LamX.CodeO at e2; cases e2
      | ok l => obtain ⟨xs, rfl, _⟩ := g5; unfold LamX.CodeO at e2; cases e2
      | ot l => obtain ⟨xs, rfl, _⟩ := g5; unfold LamX.CodeO at e2; cases e2
  · by_cases hj : i = j
    · subst hj
      rw [List.getElem?_set_self hlt] at ht
      cases ht
      exact .mk hs.own ⟨a, u', ha, g1, g2, g3, upd_same, hs⟩
    · rw [List.getElem?_set_ne hj] at ht
      by_cases hot : t.own = true
      · obtain ⟨b, u2, e2, q1, q2, q3, q4, q5⟩ := (R.sl j t ht).at hot
        refine .mk hot ⟨b, u2, e2, q1, q2, q3, ?_, q5⟩
        rw [upd_ne fun z => hj (R.ap i j s t a hi ht ho hot ha (by rw [← z]; exact e2))]
        exact q4
      · cases t with
        | val d' => exact R.sl j _ ht
        | emp => trivial
        | _ => exact absurd rfl hot
  · have hj' : ∀ (j : Nat) t, (ρ.set i s')[j]? = some t → t.own = true → ∃ t', ρ[j]? = some t' ∧ t'.own = true := fun j t h1 o1 => by
      by_cases hj : i = j
      · subst hj; exact ⟨s, hi, ho⟩
      · rw [List.getElem?_set_ne hj] at h1; exact ⟨t, h1, o1⟩
    obtain ⟨t', k1, k2⟩ := hj' j t h1 o1
    obtain ⟨r', k3, k4⟩ := hj' l r h2 o2
    exact R.ap j l t' r' b k1 k3 k2 k4 e1 e2
end
end DL

namespace DL
open PySem PySem.Spec L2
open PyProof.Rows hiding St

/-! ### results and readings -/
inductive DR (α : Type) where
  | ok (a : α) (S : List DO) | exc (x : Str) (fs : List (Str × DV)) (S : List DO) | bad
def DR.bind {α β : Type} (r : DR α) (f : α → List DO → DR β) : DR β := match r with
  | .ok a S => f a S
  | .exc x fs S => .exc x fs S
  | .bad => .bad
def optR {α : Type} (o : Option α) (S : List DO) : DR α := match o with
  | some a => .ok a S
  | none => .bad
abbrev EnvD := List SL
abbrev Ev := EnvD → List DO → DR DV
abbrev Evs := EnvD → List DO → DR (List DV)
abbrev Et := EnvD → List DO → DR Bool

def IsExc (K : PySem.W.Frag) (c : DC) (F H : Hp) (φ : Phi) (cls : Value) (dd : Option Addr) (x : Str) (fs : List (Str × DV)) : Prop :=
  ∃ C, c.ca x = some C ∧ cls = .ref C ∧ (fs ≠ [] → ∃ a vs, dd = some a ∧ H a = some (.xd vs) ∧ FsOk K F φ vs fs)

def Run {α : Type} (K : PySem.W.Frag) (c : DC) (W : WX) (B : Bs) (F : Hp) (φ : Phi) (σ : St) (ε : EnvD) (r : DR α) (k : α → List DO → Hp → Hp → Phi → Prop) : Prop := match r with
  | .ok a S' => ∀ F' H' φ', FExt F F' → PExt φ φ' → RelE K c B F' H' φ' σ ε S' → k a S' F' H' φ'
  | .exc x fs S' => ∀ cls dd F' H' φ', FExt F F' → PExt φ φ' → RelE K c B F' H' φ' σ ε S' → IsExc K c F' H' φ' cls dd x fs → W cls dd σ H'
  | .bad => False
section
variable {α β : Type} {K : PySem.W.Frag} {c : DC} {W : WX} {B : Bs} {F : Hp} {φ : Phi} {σ : St} {ε : EnvD}
theorem Run.ext {r : DR α} {k : α → List DO → Hp → Hp → Phi → Prop} {F1 : Hp} {φ1 : Phi} (h : Run K c W B F φ σ ε r k) (e : FExt F F1) (p : PExt φ φ1) : Run K c W B F1 φ1 σ ε r k := by
  cases r with
  | ok a S' => exact fun F' H' φ' e' p' => h F' H' φ' (e.trans e') (p.trans p')
  | exc x fs S' => exact fun cls dd F' H' φ' e' p' => h cls dd F' H' φ' (e.trans e') (p.trans p')
  | bad => exact h
theorem Run.bind {r : DR α} {f : α → List DO → DR β} {k : β → List DO → Hp → Hp → Phi → Prop} (h : Run K c W B F φ σ ε (r.bind f) k) :
    Run K c W B F φ σ ε r fun a S' F' H' φ' => Run K c W B F' φ' σ ε (f a S') k := by
  cases r with
  | ok a S' => exact fun F' H' φ' e p R => (show Run K c W B F φ σ ε (f a S') k from h).ext e p
  | exc x fs S' => exact h
  | bad => exact h
theorem Run.mono {r : DR α} {k k' : α → List DO → Hp → Hp → Phi → Prop} (h : Run K c W B F φ σ ε r k)
    (m : ∀ a S' F' H' φ', r = .ok a S' → FExt F F' → PExt φ φ' → RelE K c B F' H' φ' σ ε S' → k a S' F' H' φ' → k' a S' F' H' φ') : Run K c W B F φ σ ε r k' := by
  cases r with
  | ok a S' => exact fun F' H' φ' e p R => m a S' F' H' φ' rfl e p R (h F' H' φ' e p R)
  | exc x fs S' => exact h
  | bad => exact h
theorem Run.opt {o : Option α} {S : List DO} {k : α → List DO → Hp → Hp → Phi → Prop} (h : Run K c W B F φ σ ε (optR o S) k) : ∃ a, o = some a ∧ ∀ F' H' φ', FExt F F' → PExt φ φ' → RelE K c B F' H' φ' σ ε S → k a S F' H' φ' := by
  cases o with
  | none => exact h.elim
  | some a => exact ⟨a, rfl, h⟩
end
def tD (K : PySem.W.Frag) (c : DC) (W : WX) (f : Ev) : TE := fun σ H Q => ∃ B F φ ε S, RelE K c B F H φ σ ε S ∧ Run K c W B F φ σ ε (f ε S) fun d _ F' H' φ' => ∀ v, IsD K F' φ' v d → Q v H'
def tDs (K : PySem.W.Frag) (c : DC) (W : WX) (f : Evs) : TA := fun σ H Q => ∃ B F φ ε S, RelE K c B F H φ σ ε S ∧ Run K c W B F φ σ ε (f ε S) fun d _ F' H' φ' => ∀ v, IsDs K F' φ' v d → Q v H'
def tDt (K : PySem.W.Frag) (c : DC) (W : WX) (f : Et) : TT := fun σ H Q => ∃ B F φ ε S, RelE K c B F H φ σ ε S ∧ Run K c W B F φ σ ε (f ε S) fun b _ _ H' _ => Q b H'
/-- .. of a list or dict that is new -/
def tDn (K : PySem.W.Frag) (c : DC) (W : WX) (f : Ev) : TE := fun σ H Q => ∃ B F φ ε S, RelE K c B F H φ σ ε S ∧ Run K c W B F φ σ ε (f ε S) fun d _ F' H' φ' => ∀ v, IsD K F' φ' v d → (∃ a, v = .ref a ∧ B.H0 a = none) → Q v H'

theorem PE.imp {X : Cx} {e : Expr} {t t' : TE} (h : PE X e t) (m : ∀ σ H Q, t' σ H Q → t σ H Q) : PE X e t' := ⟨fun pins s σ H Q I hw => h.run pins s σ H Q I (m σ H Q hw)⟩
theorem PT.imp {X : Cx} {e : Expr} {t t' : TT} (h : PT X e t) (m : ∀ σ H Q, t' σ H Q → t σ H Q) : PT X e t' := ⟨fun pins s σ H Q I hw => h.run pins s σ H Q I (m σ H Q hw)⟩
theorem PA.imp {X : Cx} {e : List Expr} {t t' : TA} (h : PA X e t) (m : ∀ σ H Q, t' σ H Q → t σ H Q) : PA X e t' := ⟨fun pos pins s σ H Q I hw => h.run pos pins s σ H Q I (m σ H Q hw)⟩
theorem PS.imp {X : Cx} {e : Stmt} {t t' : TS} (h : PS X e t) (m : ∀ σ H Q, t' Q σ H → t Q σ H) : PS X e t' := ⟨fun pins s σ H D I hw => h.run pins s σ H D I (m σ H D hw)⟩
theorem PSs.imp {X : Cx} {e : List Stmt} {t t' : TS} (h : PSs X e t) (m : ∀ σ H Q, t' Q σ H → t Q σ H) : PSs X e t' := ⟨fun pins s σ H D I hw => h.run pins s σ H D I (m σ H D hw)⟩
theorem PI.imp {X : Cx} {tg e : Expr} {t t' : TI} (h : PI X tg e t) (m : ∀ σ H R, t' σ H R → t σ H R) : PI X tg e t' := ⟨fun pins s σ H R I hw => h.run pins s σ H R I (m σ H R hw)⟩
theorem PG.imp {X : Cx} {tg : Expr} {t t' : TG} (h : PG X tg t) (m : ∀ v σ H Q, t' v σ H Q → t v σ H Q) : PG X tg t' := ⟨fun pins s σ H v u Q I r hw => h.run pins s σ H v u Q I r (m v σ H Q hw)⟩

/-! ### laying new things -/
section
variable {K : PySem.W.Frag} {c : DC} {B : Bs} {F H : Hp} {φ : Phi} {σ : St} {ε : EnvD} {S : List DO}
theorem Core.new (C : Core K c B F H φ S) {p : Addr} (o : HO) (np : H p = none) (ht : ∀ ps, o ≠ .tbl ps) : Core K c B (upd F p o) (upd H p o) φ S := by
  have nF : ∀ a u, F a = some u → a ≠ p := fun a u e => ne_of_none (C.fh a u e) np
  have hB : B.H0 p = none := by
    cases q : B.H0 p with
    | none => rfl
    | some u => exact absurd np (C.ex p (by rw [q]; simp))
  have nH : ∀ a u, H a = some u → a ≠ p := fun a u e => ne_of_none e np
  have fe : FExt F (upd F p o) := fun a u e => by rw [upd_ne (nF a u e)]; exact e
  refine ⟨C.f0.trans fe, fun a u e => ?_, fun a u e => ?_, fun a u e hp hu => ?_, fun a e => ?_, C.ph, C.nd, fun a ha => ?_, C.ln, fun i q u h1 h2 => ((C.ob i q u h1 h2).mono fe (PExt.refl _)).stay fun a _ w e => ?_, fun q hq => (C.tb q hq).ext fun b u e => ?_, fun a ps e => ?_⟩
  · by_cases z : a = p
    · subst z; rw [upd_same] at e ⊢; exact e
    · rw [upd_ne z] at e ⊢; exact C.fh a u e
  · by_cases z : a = p
    · subst z; exact .inr hB
    · rw [upd_ne z] at e; exact C.fn a u e
  · have h1 := C.kp a u e hp hu
    rw [upd_ne (nH a u h1)]; exact h1
  · by_cases z : a = p
    · subst z; rw [upd_same]; simp
    · rw [upd_ne z]; exact C.ex a e
  · rw [upd_ne fun z => C.phi_there a ha (by rw [z]; exact np)]
    exact C.pf a ha
  · rw [upd_ne (nH a w e)]; exact e
  · rw [upd_ne (nH b u e)]; exact e
  · by_cases z : a = p
    · subst z; rw [upd_same] at e; exact ht ps (Option.some.inj e)
    · rw [upd_ne z] at e; exact C.ft a ps e
theorem fext_new (C : Core K c B F H φ S) {p : Addr} (o : HO) (np : H p = none) : FExt F (upd F p o) := fun a u e => by rw [upd_ne (ne_of_none (C.fh a u e) np)]; exact e
theorem RelE.new (R : RelE K c B F H φ σ ε S) {p : Addr} (o : HO) (np : H p = none) (ht : ∀ ps, o ≠ .tbl ps) : RelE K c B (upd F p o) (upd H p o) φ σ ε S :=
  R.after (R.core.start.new o np ht)
theorem RelE.base0 (R : RelE K c B F H φ σ ε S) {p : Addr} (np : H p = none) : B.H0 p = none := by
  cases q : B.H0 p with
  | none => rfl
  | some u => exact absurd np (R.core.ex p (by rw [q]; simp))
theorem sqT_of {a : Addr} {xs : List V} (k : FExt F H) (h : SqT K F a xs) : SqT K H a xs := sqT_mono k h
theorem nt_tup {xs : List V} : ∀ ps, HO.tup xs ≠ .tbl ps := fun _ e => nomatch e
theorem nt_lst {xs : List V} : ∀ ps, HO.lst xs ≠ .tbl ps := fun _ e => nomatch e
theorem nt_dK {xs : List (Key × V)} : ∀ ps, HO.dK xs ≠ .tbl ps := fun _ e => nomatch e
theorem nt_dT {xs : List (List Key × V)} : ∀ ps, HO.dT xs ≠ .tbl ps := fun _ e => nomatch e
end

/-! ### names, constants, operators -/
def eVar (i : Nat) : Ev := fun ε S => match ε[i]? with
  | some (.val d) => .ok d S
  | _ => .bad
def eLit (d : DV) : Ev := fun _ S => .ok d S
def eBin (g : DV → DV → Option DV) (a b : Ev) : Ev := fun ε S => (a ε S).bind fun x S1 => (b ε S1).bind fun y S2 => optR (g x y) S2
def eUn (g : DV → Option DV) (a : Ev) : Ev := fun ε S => (a ε S).bind fun x S1 => optR (g x) S1
def eIf (t : Et) (a b : Ev) : Ev := fun ε S => (t ε S).bind fun k S1 => if k = true then a ε S1 else b ε S1
def OpD (K : PySem.W.Frag) (c : DC) (r : R2) (g : DV → DV → Option DV) : Prop :=
  ∀ (B : Bs) (F H : Hp) (φ : Phi) (σ : St) (ε : EnvD) (S : List DO) (x y : V) (dx dy d : DV) (Q : VK), RelE K c B F H φ σ ε S → IsD K F φ x dx → IsD K F φ y dy → g dx dy = some d →
    (∀ v F' H', FExt F F' → RelE K c B F' H' φ σ ε S → IsD K F' φ v d → Q v H') → r x y H Q
def UnD (K : PySem.W.Frag) (c : DC) (r : V → Hp → VK → Prop) (g : DV → Option DV) : Prop :=
  ∀ (B : Bs) (F H : Hp) (φ : Phi) (σ : St) (ε : EnvD) (S : List DO) (x : V) (dx d : DV) (Q : VK), RelE K c B F H φ σ ε S → IsD K F φ x dx → g dx = some d →
    (∀ v F' H', FExt F F' → RelE K c B F' H' φ σ ε S → IsD K F' φ v d → Q v H') → r x H Q
section
variable {X : Cx} {c : DC} {W : WX} {a b e : Expr} {es : List Expr} {ea eb : Ev} {pos : Pos}
theorem pd_pv (i : Nat) (h : PE X e (tVar i)) : PE X e (tD X.K c W (eVar i)) := PE.imp h fun σ H Q ⟨B, F, φ, ε, S, R, q⟩ => by
  show ∃ v, σ[i]? = some (some v) ∧ Q v H
  unfold eVar at q
  split at q
  · rename_i d hd
    obtain ⟨v, h1, h2⟩ := R.sl i _ hd
    exact ⟨v, h1, q F H φ (FExt.refl _) (PExt.refl _) R v h2⟩
  · exact q.elim
theorem pd_lit {v : V} {d : DV} (h : PE X e (tC v)) (hd : ∀ F φ, IsD X.K F φ v d) : PE X e (tD X.K c W (eLit d)) := PE.imp h fun σ H Q ⟨B, F, φ, ε, S, R, q⟩ =>
  q F H φ (FExt.refl _) (PExt.refl _) R v (hd F φ)
theorem run_bin {ta tb : Ev} {g : DV → DV → Option DV} {r : R2} {σ : St} {H : Hp} {Q : VK} (hg : OpD X.K c r g) (h : tD X.K c W (eBin g ea eb) σ H Q) : tOp r (tD X.K c W ea) (tD X.K c W eb) σ H Q := by
  obtain ⟨B, F, φ, ε, S, R, q⟩ := h
  refine ⟨B, F, φ, ε, S, R, (Run.bind q).mono fun d1 S1 F1 H1 φ1 _ e1 p1 R1 q1 x hx => ?_⟩
  refine ⟨B, F1, φ1, ε, S1, R1, (Run.bind q1).mono fun d2 S2 F2 H2 φ2 _ e2 p2 R2 q2 y hy => ?_⟩
  obtain ⟨d, hd, q3⟩ := Run.opt q2
  exact hg B F2 H2 φ2 σ ε S2 x y d1 d2 d Q R2 (hx.mono e2 p2) hy hd fun v F' H' e' R' hv => q3 F' H' φ2 e' (PExt.refl _) R' v hv
theorem pd_op {op : Operator} {r : R2} {g : DV → DV → Option DV} (ho : OpR X (binaryOp op) r) (hg : OpD X.K c r g) (ha : PE X a (tD X.K c W ea)) (hb : PE X b (tD X.K c W eb)) : PE X (.BinOp a op b pos) (tD X.K c W (eBin g ea eb)) :=
  PE.imp (pe_op ho ha hb) fun σ H Q h => run_bin (ta := ea) (tb := eb) hg h
theorem pd_cmp {op : CmpOp} {r : R2} {g : DV → DV → Option DV} (ho : OpR X (compareOp op) r) (hg : OpD X.K c r g) (ha : PE X a (tD X.K c W ea)) (hb : PE X b (tD X.K c W eb)) (hm : behindInMarks op b = false) : PE X (.Compare a [op] [b] pos) (tD X.K c W (eBin g ea eb)) :=
  PE.imp (pe_cmpR ho ha hb hm) fun σ H Q h => run_bin (ta := ea) (tb := eb) hg h
theorem pd_un {op : UnaryOp} {r : V → Hp → VK → Prop} {g : DV → Option DV} (ho : UnR X (unaryOp op) r) (hg : UnD X.K c r g) (ha : PE X a (tD X.K c W ea)) : PE X (.UnaryOp op a pos) (tD X.K c W (eUn g ea)) :=
  PE.imp (pe_un ho ha) fun σ H Q ⟨B, F, φ, ε, S, R, q⟩ => ⟨B, F, φ, ε, S, R, (Run.bind q).mono fun d1 S1 F1 H1 φ1 _ e1 p1 R1 q1 x hx => by
    obtain ⟨d, hd, q3⟩ := Run.opt q1
    exact hg B F1 H1 φ1 σ ε S1 x d1 d Q R1 hx hd fun v F' H' e' R' hv => q3 F' H' φ1 e' (PExt.refl _) R' v hv⟩
theorem pd_if {t : Expr} {tt : Et} (ht : PT X t (tDt X.K c W tt)) (ha : PE X a (tD X.K c W ea)) (hb : PE X b (tD X.K c W eb)) : PE X (.IfExp t a b pos) (tD X.K c W (eIf tt ea eb)) :=
  PE.imp (pe_ifExp ht ha hb) fun σ H Q ⟨B, F, φ, ε, S, R, q⟩ => ⟨B, F, φ, ε, S, R, (Run.bind q).mono fun k S1 F1 H1 φ1 _ e1 p1 R1 q1 => by
    cases k with
    | true => rw [if_pos rfl]; rw [if_pos rfl] at q1; exact ⟨B, F1, φ1, ε, S1, R1, q1⟩
    | false => rw [if_neg Bool.false_ne_true]; rw [if_neg Bool.false_ne_true] at q1; exact ⟨B, F1, φ1, ε, S1, R1, q1⟩⟩

/-! ### tests -/
def tOf (a : Ev) : Et := fun ε S => (a ε S).bind fun x S1 => match x with
  | .bl k => .ok k S1
  | .non => .ok false S1
  | .int i => .ok (i != 0) S1
  | .tup l => if l.length ≤ 16777216 then .ok (!l.isEmpty) S1 else .bad
  | .lst l => .ok (!l.isEmpty) S1
  | .str x => if x.length ≤ 16777216 then .ok ((x.length : Int) != 0) S1 else .bad
  | _ => .bad
def tCmpB (g : DV → DV → Option DV) (a b : Ev) : Et := fun ε S => (a ε S).bind fun x S1 => (b ε S1).bind fun y S2 => match g x y with
  | some (.bl k) => .ok k S2
  | _ => .bad
def tAnd' (a b : Et) : Et := fun ε S => (a ε S).bind fun k S1 => if k = true then b ε S1 else .ok false S1
def tOr' (a b : Et) : Et := fun ε S => (a ε S).bind fun k S1 => if k = true then .ok true S1 else b ε S1
def tNot' (a : Et) : Et := fun ε S => (a ε S).bind fun k S1 => .ok (!k) S1
theorem empty_iff {K : PySem.W.Frag} {F : Hp} {φ : Phi} {xs : List V} {ds : List DV} (h : IsDs K F φ xs ds) : xs.isEmpty = ds.isEmpty := by
  cases h <;> rfl
theorem pdt_truth (ha : PE X a (tD X.K c W ea)) (he : ∀ whole, isTrue a X.env whole = (do let v ← whole; standAt a.pos; holding [v] (truthy v))) : PT X a (tDt X.K c W (tOf ea)) :=
  PT.imp (pt_truth ha he) fun σ H Q ⟨B, F, φ, ε, S, R, q⟩ => ⟨B, F, φ, ε, S, R, (Run.bind q).mono fun d S1 F1 H1 φ1 _ e1 p1 R1 q1 v hv => by
    have fin : ∀ {k : Bool}, Run X.K c W B F1 φ1 σ ε (.ok k S1) (fun b _ _ H' _ => Q b H') → Q k H1 := fun {k} q => q F1 H1 φ1 (FExt.refl _) (PExt.refl _) R1
    have hsl : sizeLine = 16777216 := sizeLine_eq
    cases hv with
    | non => exact ⟨_, rfl, fin q1⟩
    | bl b => exact ⟨_, rfl, fin q1⟩
    | int i => exact ⟨_, rfl, fin q1⟩
    | str x =>
      dsimp only at q1
      split at q1
      · rename_i hl
        exact ⟨_, ⟨by omega, rfl⟩, fin q1⟩
      · exact q1.elim
    | @tup a xs ds hs hd =>
      dsimp only at q1
      split at q1
      · refine ⟨_, .inr (.inl ⟨xs, sqT_of R1.core.fh hs, rfl⟩), ?_⟩
        rw [empty_iff hd]
        exact fin q1
      · exact q1.elim
    | @lst a xs ds hs hd =>
      refine ⟨_, .inl ⟨xs, .inl (.inl (R1.core.fh _ _ hs)), rfl⟩, ?_⟩
      rw [empty_iff hd]
      exact fin q1
    | scr hs => exact q1.elim
    | dk hs he hd => exact q1.elim
    | dt hs he hd => exact q1.elim
    | obj hs => exact q1.elim⟩
theorem pdt_cmp {op : CmpOp} {r : R2} {g : DV → DV → Option DV} (ho : OpR X (compareOp op) r) (hg : OpD X.K c r g) (ha : PE X a (tD X.K c W ea)) (hb : PE X b (tD X.K c W eb)) (hm : behindInMarks op b = false) : PT X (.Compare a [op] [b] pos) (tDt X.K c W (tCmpB g ea eb)) :=
  PT.imp (pt_cmpR ho ha hb hm) fun σ H Q ⟨B, F, φ, ε, S, R, q⟩ => ⟨B, F, φ, ε, S, R, (Run.bind q).mono fun d1 S1 F1 H1 φ1 _ e1 p1 R1 q1 x hx => ⟨B, F1, φ1, ε, S1, R1, (Run.bind q1).mono fun d2 S2 F2 H2 φ2 _ e2 p2 R2 q2 y hy => by
    split at q2
    · rename_i k hk
      refine hg B F2 H2 φ2 σ ε S2 x y d1 d2 (.bl k) _ R2 (hx.mono e2 p2) hy hk fun v F' H' e' R' hv => ?_
      cases hv
      exact ⟨k, rfl, q2 F' H' φ2 e' (PExt.refl _) R'⟩
    · exact q2.elim⟩⟩
theorem pdt_not {ta : Et} (ha : PT X a (tDt X.K c W ta)) : PT X (.UnaryOp .Not a pos) (tDt X.K c W (tNot' ta)) :=
  PT.imp (pt_not ha) fun σ H Q ⟨B, F, φ, ε, S, R, q⟩ => ⟨B, F, φ, ε, S, R, (Run.bind q).mono fun k S1 F1 H1 φ1 _ e1 p1 R1 q1 => q1 F1 H1 φ1 (FExt.refl _) (PExt.refl _) R1⟩
theorem pdw_and1 {ta : Et} (ha : PT X a (tDt X.K c W ta)) : PW X (.BoolOp .And [a] pos) (tDt X.K c W ta) := pw_and1 ha
theorem pdw_or1 {ta : Et} (ha : PT X a (tDt X.K c W ta)) : PW X (.BoolOp .Or [a] pos) (tDt X.K c W ta) := pw_or1 ha
theorem PW.imp {t t' : TT} (h : PW X e t) (m : ∀ σ H Q, t' σ H Q → t σ H Q) : PW X e t' := ⟨fun wh pins s σ H Q I hw => h.run wh pins s σ H Q I (m σ H Q hw)⟩
theorem pdw_and {ta tb : Et} {rest : List Expr} (ha : PT X a (tDt X.K c W ta)) (hb : PW X (.BoolOp .And (b :: rest) pos) (tDt X.K c W tb)) : PW X (.BoolOp .And (a :: b :: rest) pos) (tDt X.K c W (tAnd' ta tb)) :=
  PW.imp (pw_and ha hb) fun σ H Q ⟨B, F, φ, ε, S, R, q⟩ => ⟨B, F, φ, ε, S, R, (Run.bind q).mono fun k S1 F1 H1 φ1 _ e1 p1 R1 q1 => by
    cases k with
    | true => rw [if_pos rfl]; rw [if_pos rfl] at q1; exact ⟨B, F1, φ1, ε, S1, R1, q1⟩
    | false => rw [if_neg Bool.false_ne_true]; rw [if_neg Bool.false_ne_true] at q1; exact q1 F1 H1 φ1 (FExt.refl _) (PExt.refl _) R1⟩
theorem pdw_or {ta tb : Et} {rest : List Expr} (ha : PT X a (tDt X.K c W ta)) (hb : PW X (.BoolOp .Or (b :: rest) pos) (tDt X.K c W tb)) : PW X (.BoolOp .Or (a :: b :: rest) pos) (tDt X.K c W (tOr' ta tb)) :=
  PW.imp (pw_or ha hb) fun σ H Q ⟨B, F, φ, ε, S, R, q⟩ => ⟨B, F, φ, ε, S, R, (Run.bind q).mono fun k S1 F1 H1 φ1 _ e1 p1 R1 q1 => by
    cases k with
    | true => rw [if_pos rfl]; rw [if_pos rfl] at q1; exact q1 F1 H1 φ1 (FExt.refl _) (PExt.refl _) R1
    | false => rw [if_neg Bool.false_ne_true]; rw [if_neg Bool.false_ne_true] at q1; exact ⟨B, F1, φ1, ε, S1, R1, q1⟩⟩
/-- and, or of truth values as a value -/
def eAnd' (a b : Ev) : Ev := fun ε S => (a ε S).bind fun x S1 => match x with
  | .bl true => b ε S1
  | .bl false => .ok (.bl false) S1
  | _ => .bad
def eOr' (a b : Ev) : Ev := fun ε S => (a ε S).bind fun x S1 => match x with
  | .bl true => .ok (.bl true) S1
  | .bl false => b ε S1
  | _ => .bad
def gNot : DV → Option DV
  | .bl b => some (.bl !b)
  | _ => none
theorem pd_one {op : BoolOp} (ha : PE X a (tD X.K c W ea)) : PE X (.BoolOp op [a] pos) (tD X.K c W ea) := pe_one ha
theorem pd_and {rest : List Expr} (ha : PE X a (tD X.K c W ea)) (hb : PE X (.BoolOp .And (b :: rest) pos) (tD X.K c W eb)) : PE X (.BoolOp .And (a :: b :: rest) pos) (tD X.K c W (eAnd' ea eb)) :=
  PE.imp (pe_and ha hb) fun σ H Q ⟨B, F, φ, ε, S, R, q⟩ => ⟨B, F, φ, ε, S, R, (Run.bind q).mono fun d S1 F1 H1 φ1 _ e1 p1 R1 q1 v hv => by
    split at q1
    · cases hv
      refine ⟨true, rfl, ?_⟩
      rw [if_pos rfl]
      exact ⟨B, F1, φ1, ε, S1, R1, q1⟩
    · cases hv
      refine ⟨false, rfl, ?_⟩
      rw [if_neg Bool.false_ne_true]
      exact q1 F1 H1 φ1 (FExt.refl _) (PExt.refl _) R1 _ (.bl false)
    · exact q1.elim⟩
theorem pd_or {rest : List Expr} (ha : PE X a (tD X.K c W ea)) (hb : PE X (.BoolOp .Or (b :: rest) pos) (tD X.K c W eb)) : PE X (.BoolOp .Or (a :: b :: rest) pos) (tD X.K c W (eOr' ea eb)) :=
  PE.imp (pe_or ha hb) fun σ H Q ⟨B, F, φ, ε, S, R, q⟩ => ⟨B, F, φ, ε, S, R, (Run.bind q).mono fun d S1 F1 H1 φ1 _ e1 p1 R1 q1 v hv => by
    split at q1
    · cases hv
      refine ⟨true, rfl, ?_⟩
      rw [if_pos rfl]
      exact q1 F1 H1 φ1 (FExt.refl _) (PExt.refl _) R1 _ (.bl true)
    · cases hv
      refine ⟨false, rfl, ?_⟩
      rw [if_neg Bool.false_ne_true]
      exact ⟨B, F1, φ1, ε, S1, R1, q1⟩
    · exact q1.elim⟩
theorem pd_not (ha : PE X a (tD X.K c W ea)) : PE X (.UnaryOp .Not a pos) (tD X.K c W (eUn gNot ea)) :=
  PE.imp (pe_not ha) fun σ H Q ⟨B, F, φ, ε, S, R, q⟩ => ⟨B, F, φ, ε, S, R, (Run.bind q).mono fun d S1 F1 H1 φ1 _ e1 p1 R1 q1 v hv => by
    obtain ⟨d', hd, q3⟩ := Run.opt q1
    unfold gNot at hd
    split at hd
    · cases hv
      cases hd
      exact ⟨_, rfl, q3 F1 H1 φ1 (FExt.refl _) (PExt.refl _) R1 _ (.bl _)⟩
    · cases hd⟩

/-! ### argument lists and displays -/
def aNil : Evs := fun _ S => .ok [] S
def aCons (a : Ev) (r : Evs) : Evs := fun ε S => (a ε S).bind fun x S1 => (r ε S1).bind fun xs S2 => .ok (x :: xs) S2
def eTup (r : Evs) : Ev := fun ε S => (r ε S).bind fun xs S1 => .ok (.tup xs) S1
def eLst (r : Evs) : Ev := fun ε S => (r ε S).bind fun xs S1 => .ok (.lst xs) S1
/-- as many as are written -/
def ALen (er : Evs) (n : Nat) : Prop := ∀ ε S xs S1, er ε S = .ok xs S1 → xs.length = n
theorem pda_nil : PA X [] (tDs X.K c W aNil) := PA.imp pa_nil fun σ H Q ⟨B, F, φ, ε, S, R, q⟩ => q F H φ (FExt.refl _) (PExt.refl _) R [] .nil
theorem pda_cons {er : Evs} (ha : PE X e (tD X.K c W ea)) (hr : PA X es (tDs X.K c W er)) (hs : starEach (e :: es) X.env = (false, eval e X.env) :: starEach es X.env := by rfl) : PA X (e :: es) (tDs X.K c W (aCons ea er)) :=
  PA.imp (pa_cons ha hr hs) fun σ H Q ⟨B, F, φ, ε, S, R, q⟩ => ⟨B, F, φ, ε, S, R, (Run.bind q).mono fun d1 S1 F1 H1 φ1 _ e1 p1 R1 q1 x hx => ⟨B, F1, φ1, ε, S1, R1, (Run.bind q1).mono fun d2 S2 F2 H2 φ2 _ e2 p2 R2 q2 y hy =>
    q2 F2 H2 φ2 (FExt.refl _) (PExt.refl _) R2 _ (.cons (hx.mono e2 p2) hy)⟩⟩
theorem lenOk {α : Type} {xs : List α} {n : Nat} (h : xs.length = n) (hn : n ≤ 16777216) : xs.length ≤ sizeLine := by rw [h, sizeLine_eq]; exact hn
theorem pd_tup {er : Evs} {k : Nat} (h : PA X es (tDs X.K c W er)) {n : Nat} (hl : ALen er n) (hn : n ≤ 16777216 := by decide) : PE X (.Tuple es k pos) (tD X.K c W (eTup er)) :=
  PE.imp (pe_tup h) fun σ H Q ⟨B, F, φ, ε, S, R, q⟩ => ⟨B, F, φ, ε, S, R, (Run.bind q).mono fun d1 S1 F1 H1 φ1 hr e1 p1 R1 q1 x hx => by
    refine ⟨lenOk (hx.length.trans (hl _ _ _ _ hr)) hn, fun p np => ?_⟩
    exact q1 _ _ φ1 (fext_new R1.core _ np) (PExt.refl _) (R1.new _ np nt_tup) _ (.tup (SqT.of upd_same) (hx.mono (fext_new R1.core _ np) (PExt.refl _)))⟩
theorem pdn_lst {er : Evs} (h : PA X es (tDs X.K c W er)) {n : Nat} (hl : ALen er n) (hn : n ≤ 16777216 := by decide) : PE X (.List es pos) (tDn X.K c W (eLst er)) :=
  PE.imp (pe_lst h) fun σ H Q ⟨B, F, φ, ε, S, R, q⟩ => ⟨B, F, φ, ε, S, R, (Run.bind q).mono fun d1 S1 F1 H1 φ1 hr e1 p1 R1 q1 x hx => by
    refine ⟨lenOk (hx.length.trans (hl _ _ _ _ hr)) hn, fun p np => ?_⟩
    exact q1 _ _ φ1 (fext_new R1.core _ np) (PExt.refl _) (R1.new _ np nt_lst) _ (.lst upd_same (hx.mono (fext_new R1.core _ np) (PExt.refl _))) ⟨p, rfl, R1.base0 np⟩⟩
theorem pd_of_n (h : PE X e (tDn X.K c W ea)) : PE X e (tD X.K c W ea) := PE.imp h fun σ H Q ⟨B, F, φ, ε, S, R, q⟩ => ⟨B, F, φ, ε, S, R, q.mono fun d S1 F1 H1 φ1 _ _ _ _ q1 v hv _ => q1 v hv⟩
theorem aln_nil : ALen aNil 0 := fun ε S xs S1 h => by cases h; rfl
theorem aln_cons {ea : Ev} {er : Evs} {n : Nat} (h : ALen er n) : ALen (aCons ea er) (n + 1) := fun ε S xs S1 q => by
  unfold aCons at q
  cases h1 : ea ε S with
  | ok x S2 =>
    rw [h1] at q
    have q : ((er ε S2).bind fun xs S2 => DR.ok (x :: xs) S2) = .ok xs S1 := q
    cases h2 : er ε S2 with
    | ok y S3 =>
      rw [h2] at q
      cases q
      have := h _ _ _ _ h2
      simp only [List.length_cons]
      omega
    | exc _ _ _ => rw [h2] at q; cases q
    | bad => rw [h2] at q; cases q
  | exc _ _ _ => rw [h1] at q; cases q
  | bad => rw [h1] at q; cases q

/-! ### the slots' own things, read for a while -/
def eBor (f : Ev) : Ev := fun ρ S => (f (frzA ρ) S).bind fun d S1 => if noL d = true then .ok d S1 else .bad
def tBor (f : Et) : Et := fun ρ S => f (frzA ρ) S
theorem Run.bor {α : Type} {K : PySem.W.Frag} {B : Bs} {F H : Hp} {φ : Phi} {σ : St} {ρ : List SL} {S : List DO} {r : DR α} {k : α → List DO → Hp → Hp → Phi → Prop} (R : RelE K c B F H φ σ ρ S)
    (h : Run K c W B F φ σ ρ r k) : Run K c W ⟨H, fzn F H σ ρ, φ⟩ (fzn F H σ ρ) φ σ (frzA ρ) r fun a S' F' H' φ' => RelE K c B (DL.cut F' (OwnS σ ρ)) H' φ' σ ρ S' ∧ FTup F' (DL.cut F' (OwnS σ ρ)) ∧ k a S' (DL.cut F' (OwnS σ ρ)) H' φ' := by
  cases r with
  | ok a S' =>
    intro F' H' φ' e p R'
    have E := R.unbor R'.core
    have RA : RelE K c B (DL.cut F' (OwnS σ ρ)) H' φ' σ ρ S' := R.after E
    exact ⟨RA, cut_tup _ (own_tup R R'.core), h _ _ _ E.f0 E.pext RA⟩
  | exc x fs S' =>
    intro cls dd F' H' φ' e p R' hx
    have E := R.unbor R'.core
    have RA : RelE K c B (DL.cut F' (OwnS σ ρ)) H' φ' σ ρ S' := R.after E
    obtain ⟨C, h1, h2, h3⟩ := hx
    refine h cls dd _ _ _ E.f0 E.pext RA ⟨C, h1, h2, fun hf => ?_⟩
    obtain ⟨a, vs, g1, g2, g3, g4, g5⟩ := h3 hf
    exact ⟨a, vs, g1, g2, g3, g4.drop (cut_tup _ (own_tup R R'.core)) g5, g5⟩
  | bad => exact h
theorem pd_bor (h : PE X e (tD X.K c W ea)) : PE X e (tD X.K c W (eBor ea)) := PE.imp h fun σ H Q ⟨B, F, φ, ρ, S, R, q⟩ =>
  ⟨_, _, φ, frzA ρ, S, R.bor, (Run.bor R (Run.bind q)).mono fun d S1 F1 H1 φ1 _ e1 p1 R1 ⟨RA, ft, q1⟩ v hv => by
    split at q1
    · rename_i hn
      exact q1 _ H1 φ1 (FExt.refl _) (PExt.refl _) RA v (hv.drop ft hn)
    · exact q1.elim⟩
theorem pdt_bor {ta : Et} (h : PT X e (tDt X.K c W ta)) : PT X e (tDt X.K c W (tBor ta)) := PT.imp h fun σ H Q ⟨B, F, φ, ρ, S, R, q⟩ =>
  ⟨_, _, φ, frzA ρ, S, R.bor, (Run.bor R q).mono fun d S1 F1 H1 φ1 _ e1 p1 R1 ⟨RA, ft, q1⟩ => q1⟩
end
end DL

namespace DL
open PySem PySem.Spec L2
open PyProof.Rows hiding St

/-! ### defs -/
abbrev Fn := List DV → List DO → DR DV
def FnRun (K : PySem.W.Frag) (c : DC) (B : Bs) (r : DR DV) (Q : VK) (E : XK) : Prop := match r with
  | .ok d S' => ∀ v F' H' φ', Core K c B F' H' φ' S' → IsD K F' φ' v d → Q v H'
  | .exc x fs S' => ∀ cls dd F' H' φ', Core K c B F' H' φ' S' → IsExc K c F' H' φ' cls dd x fs → E cls dd H'
  | .bad => False
/-- the promise: it computes m -/
def spD (K : PySem.W.Frag) (c : DC) (n : Nat) (m : Fn) : Sp := fun vs H Q E => ∃ F φ S ds, Core K c ⟨H, F, φ⟩ F H φ S ∧ IsDs K F φ vs ds ∧ ds.length = n ∧ FnRun K c ⟨H, F, φ⟩ (m ds S) Q E
def eCall (m : Fn) (er : Evs) : Ev := fun ρ S => (er ρ S).bind fun ds S1 => m ds S1
section
variable {X : Cx} {c : DC} {W : WX} {a b e : Expr} {es : List Expr} {ea eb : Ev} {er : Evs} {pos p : Pos} {k n : Nat} {f : Addr} {fd : FuncData} {ps : List Str} {m : Fn} {x : Str}
theorem pd_call (F : FnOk X.prog X.w X.K X.mg X.base (L2.CX X.prog X.w) k f fd ps (spD X.K c n m)) (hr : Room k X.A) (hg : Gl X x) (hm : X.mg x = some (.ref f)) (hk : PySem.W.keepIn X.K (.ref f) = true) (hb : Binds X.K fd ps []) (tk : Takes X W)
    (ha : PA X (e :: es) (tDs X.K c W er)) (hl : ALen er n) (hdb : (x == ("__debug__" : Str)) = false := by decide) (he : starEach (e :: es) X.env = (false, eval e X.env) :: starEach es X.env := by rfl) (hpl : (backTo pos (starEach es X.env)).any (·.1) = false := by rfl) :
    PE X (.Call (.Name x p) (e :: es) [] pos) (tD X.K c W (eCall m er)) :=
  PE.imp (pe_callS F hr hg hm hk hb (passAt tk) ha hdb he hpl) fun σ H Q ⟨B, F, φ, ρ, S, R, q⟩ => ⟨B, F, φ, ρ, S, R, (Run.bind q).mono fun ds S1 F1 H1 φ1 hd e1 p1 R1 q1 vs hv => by
    refine ⟨F1, φ1, S1, ds, R1.core.start, hv, hl _ _ _ _ hd, ?_⟩
    cases hm : m ds S1 with
    | ok d S' =>
      rw [hm] at q1
      exact fun v F' H' φ' C hd => q1 F' H' φ' C.f0 C.pext (R1.after C) v hd
    | exc y fs S' =>
      rw [hm] at q1
      exact fun cls dd F' H' φ' C hx => q1 cls dd F' H' φ' C.f0 C.pext (R1.after C) hx
    | bad =>
      rw [hm] at q1
      exact q1⟩
end

/-! ### statements -/
inductive DF where
  | nx (ρ : List SL) (S : List DO) | rt (d : DV) (S : List DO) | bk (ρ : List SL) (S : List DO) | ct (ρ : List SL) (S : List DO) | exc (x : Str) (fs : List (Str × DV)) (ρ : List SL) (S : List DO) | bad
abbrev Sv := List SL → List DO → DF
def DR.st {α : Type} (r : DR α) (ρ : List SL) (f : α → List DO → DF) : DF := match r with
  | .ok a S => f a S
  | .exc x fs S => .exc x fs ρ S
  | .bad => .bad
def RunS (K : PySem.W.Frag) (c : DC) (W : WX) (B : Bs) (F : Hp) (φ : Phi) (r : DF) (D : Ends) : Prop := match r with
  | .nx ρ' S' => ∀ σ' F' H' φ', FExt F F' → PExt φ φ' → RelS K c B F' H' φ' σ' ρ' S' → D.nx σ' H'
  | .rt d S' => ∀ v F' H' φ', Core K c B F' H' φ' S' → IsD K F' φ' v d → D.rt v H'
  | .bk ρ' S' => ∀ σ' F' H' φ', FExt F F' → PExt φ φ' → RelS K c B F' H' φ' σ' ρ' S' → D.bk σ' H'
  | .ct ρ' S' => ∀ σ' F' H' φ', FExt F F' → PExt φ φ' → RelS K c B F' H' φ' σ' ρ' S' → D.ct σ' H'
  | .exc x fs ρ' S' => ∀ cls dd σ' F' H' φ', FExt F F' → PExt φ φ' → RelS K c B F' H' φ' σ' ρ' S' → IsExc K c F' H' φ' cls dd x fs → W cls dd σ' H'
  | .bad => False
def tS (K : PySem.W.Frag) (c : DC) (W : WX) (f : Sv) : TS := fun D σ H => ∃ B F φ ρ S, RelS K c B F H φ σ ρ S ∧ RunS K c W B F φ (f ρ S) D
section
variable {K : PySem.W.Frag} {c : DC} {W : WX} {B : Bs} {F H F' H' : Hp} {φ φ' : Phi} {σ : St} {ρ : List SL} {S S' : List DO} {D : Ends}
theorem RunS.ext {r : DF} {F1 : Hp} {φ1 : Phi} (h : RunS K c W B F φ r D) (e : FExt F F1) (p : PExt φ φ1) : RunS K c W B F1 φ1 r D := by
  cases r with
  | nx ρ' S' => exact fun σ' F' H' φ' e' p' => h σ' F' H' φ' (e.trans e') (p.trans p')
  | rt d S' => exact h
  | bk ρ' S' => exact fun σ' F' H' φ' e' p' => h σ' F' H' φ' (e.trans e') (p.trans p')
  | ct ρ' S' => exact fun σ' F' H' φ' e' p' => h σ' F' H' φ' (e.trans e') (p.trans p')
  | exc x fs ρ' S' => exact fun cls dd σ' F' H' φ' e' p' => h cls dd σ' F' H' φ' (e.trans e') (p.trans p')
  | bad => exact h
/-- a statement's expression -/
theorem RunS.st {α : Type} {r : DR α} {f : α → List DO → DF} (R : RelS K c B F H φ σ ρ S) (h : RunS K c W B F φ (r.st ρ f) D) :
    Run K c W ⟨H, F, φ⟩ F φ σ ρ r fun a S' F' H' φ' => RelS K c B F' H' φ' σ ρ S' ∧ Core K c ⟨H, F, φ⟩ F' H' φ' S' ∧ RunS K c W B F' φ' (f a S') D := by
  cases r with
  | ok a S' => exact fun F' H' φ' e p R' => ⟨R.after R'.core, R'.core, (show RunS K c W B F φ (f a S') D from h).ext e p⟩
  | exc x fs S' => exact fun cls dd F' H' φ' e p R' hx => h cls dd σ F' H' φ' e p (R.after R'.core) hx
  | bad => exact h
theorem RelS.set' (R : RelS K c B F H φ σ ρ S) (i : Nat) {v : V} {d : DV} (h : IsD K F φ v d) : RelS K c B F H φ (σ.set i (some v)) (ρ.set i (.val d)) S := by
  by_cases hi : i < ρ.length
  · exact R.setVal i hi h
  · rw [List.set_eq_of_length_le (show σ.length ≤ i by rw [R.len]; omega), List.set_eq_of_length_le (show ρ.length ≤ i by omega)]
    exact R
theorem RelS.clear (R : RelS K c B F H φ σ ρ S) (i : Nat) : RelS K c B F H φ (σ.set i none) (ρ.set i .emp) S := by
  refine ⟨R.core, by rw [List.length_set, List.length_set]; exact R.len, fun j s hs => ?_, fun j l s t a h1 h2 o1 o2 e1 e2 => ?_⟩
  · by_cases hj : i = j
    · subst hj
      by_cases hi : i < ρ.length
      · rw [List.getElem?_set_self hi] at hs
        cases hs
        trivial
      · rw [List.getElem?_eq_none (by rw [List.length_set]; omega)] at hs; cases hs
    · rw [List.getElem?_set_ne hj] at hs
      rw [List.getElem?_set_ne hj]
      exact R.sl j s hs
  · have hh : ∀ (j : Nat) s, (ρ.set i SL.emp)[j]? = some s → s.own = true → i ≠ j := fun j s h o e => by
      subst e
      by_cases hi : i < ρ.length
      · rw [List.getElem?_set_self hi] at h; cases h; cases o
      · rw [List.getElem?_eq_none (by rw [List.length_set]; omega)] at h; cases h
    have hj := hh j s h1 o1
    have hl := hh l t h2 o2
    rw [List.getElem?_set_ne hj] at h1 e1
    rw [List.getElem?_set_ne hl] at h2 e2
    exact R.ap j l s t a h1 h2 o1 o2 e1 e2
/-- an address of a new list or dict is let go and comes to a slot -/
theorem RelS.take' (R : RelS K c B F H φ σ ρ S) (E : Core K c ⟨H, F, φ⟩ F' H' φ' S') {a : Addr} (ha : H a = none) {u : HO} (hu : F' a = some u) {s : SL} (hs : IsHO K F' φ' u s)
    (hn : IsHO K (cut F' (· = a)) φ' u s) (i : Nat) (hi : i < ρ.length) : RelS K c B (cut F' (· = a)) H' φ' (σ.set i (some (.ref a))) (ρ.set i s) S' ∧ FExt F (cut F' (· = a)) ∧ PExt φ φ' := by
  have E2 : Core K c ⟨H, F, φ⟩ (DL.cut F' (· = a)) H' φ' S' := E.cut (· = a) (fun b e => by
    subst e
    cases q : F b with
    | none => exact q
    | some o => have z := R.core.fh b o q; rw [ha] at z; cases z) fun b e => by
      subst e
      rw [hu]
      exact ⟨fun xs z => hs.notbl.2.1 xs (Option.some.inj z), fun o w z => hs.notbl.2.2 o w (Option.some.inj z)⟩
  have R2 := R.after E2
  refine ⟨R2.setOwn i hi (E.fh a u hu) (cut_pos rfl) (fun hp => ?_) (R.core.none0 ha) (fun ho => ?_) hn, E2.f0, E2.pext⟩
  · have := E.pf a hp; rw [hu] at this; cases this
  · obtain ⟨_, _, w, _, _, _, _, _, g, _⟩ := R.enter.ownAt ho
    rw [ha] at g; cases g
end

/-- simple statements -/
def sPass : Sv := fun ρ S => .nx ρ S
def sBk : Sv := fun ρ S => .bk ρ S
def sCt : Sv := fun ρ S => .ct ρ S
def sRet (e : Ev) : Sv := fun ρ S => (e ρ S).st ρ fun d S1 => .rt d S1
def sRetN : Sv := fun _ S => .rt .non S
def sExpr (e : Ev) : Sv := fun ρ S => (e ρ S).st ρ fun _ S1 => .nx ρ S1
def sSet (i : Nat) (e : Ev) : Sv := fun ρ S => (e ρ S).st ρ fun d S1 => .nx (ρ.set i (.val d)) S1
def toOwn : DV → Option SL
  | .lst l => if noLs l = true then some (.ol l) else none
  | .dk l => if noLs (l.map (·.2)) = true then some (.ok l) else none
  | .dt l => if noLs (l.map (·.2)) = true then some (.ot l) else none
  | _ => none
def sOwn (i : Nat) (e : Ev) : Sv := fun ρ S => (e ρ S).st ρ fun d S1 => match toOwn d with
  | some s => if i < ρ.length then .nx (ρ.set i s) S1 else .bad
  | none => .bad
def sIf (t : Et) (a b : Sv) : Sv := fun ρ S => (t ρ S).st ρ fun k S1 => if k = true then a ρ S1 else b ρ S1
def sSeq (a b : Sv) : Sv := fun ρ S => match a ρ S with
  | .nx ρ' S' => b ρ' S'
  | r => r
def sWhile (t : Et) (b : Sv) : Nat → Sv
  | 0, _, _ => .bad
  | n + 1, ρ, S => (t ρ S).st ρ fun k S1 => if k = true then (match b ρ S1 with
      | .nx ρ' S' => sWhile t b n ρ' S'
      | .ct ρ' S' => sWhile t b n ρ' S'
      | .bk ρ' S' => .nx ρ' S'
      | r => r) else .nx ρ S1
section
variable {X : Cx} {c : DC} {W : WX} {a b e : Expr} {es : List Expr} {ea eb : Ev} {er : Evs} {pos p pos' : Pos} {x : Str} {st : Stmt} {rest : List Stmt} {sa sb : Sv}
theorem psd_nil : PSs X [] (tS X.K c W sPass) := PSs.imp pss_nil fun σ H D ⟨B, F, φ, ρ, S, R, q⟩ => q σ F H φ (FExt.refl _) (PExt.refl _) R
theorem psd_cons (h1 : PS X st (tS X.K c W sa)) (h2 : PSs X rest (tS X.K c W sb)) : PSs X (st :: rest) (tS X.K c W (sSeq sa sb)) := PSs.imp (pss_cons h1 h2) fun σ H D ⟨B, F, φ, ρ, S, R, q⟩ => by
  refine ⟨B, F, φ, ρ, S, R, ?_⟩
  unfold sSeq at q
  cases h : sa ρ S with
  | nx ρ' S' =>
    rw [h] at q
    exact fun σ' F' H' φ' e p R' => ⟨B, F', φ', ρ', S', R', RunS.ext q e p⟩
  | rt d S' => rw [h] at q; exact q
  | bk ρ' S' => rw [h] at q; exact q
  | ct ρ' S' => rw [h] at q; exact q
  | exc y fs ρ' S' => rw [h] at q; exact q
  | bad => rw [h] at q; exact q
theorem psd_one (h1 : PS X st (tS X.K c W sa)) : PSs X [st] (tS X.K c W sa) := pss_one h1
theorem psd_pass : PS X (.Pass pos) (tS X.K c W sPass) := PS.imp ps_pass fun σ H D ⟨B, F, φ, ρ, S, R, q⟩ => q σ F H φ (FExt.refl _) (PExt.refl _) R
theorem psd_break : PS X (.Break pos) (tS X.K c W sBk) := PS.imp ps_break fun σ H D ⟨B, F, φ, ρ, S, R, q⟩ => q σ F H φ (FExt.refl _) (PExt.refl _) R
theorem psd_cont : PS X (.Continue pos) (tS X.K c W sCt) := PS.imp ps_continue fun σ H D ⟨B, F, φ, ρ, S, R, q⟩ => q σ F H φ (FExt.refl _) (PExt.refl _) R
theorem psd_doc {y : String} {j : Nat} : PS X (.Expr (.Constant (.str y) j pos) pos') (tS X.K c W sPass) := PS.imp ps_doc fun σ H D ⟨B, F, φ, ρ, S, R, q⟩ => q σ F H φ (FExt.refl _) (PExt.refl _) R
/-- never come to -/
theorem psd_never : PS X st (tS X.K c W fun _ _ => .bad) := PS.imp ps_never fun σ H D ⟨B, F, φ, ρ, S, R, q⟩ => q.elim
theorem psd_ret (he : PE X e (tD X.K c W ea)) : PS X (.Return (some e) pos) (tS X.K c W (sRet ea)) := PS.imp (ps_ret he) fun σ H D ⟨B, F, φ, ρ, S, R, q⟩ =>
  ⟨_, F, φ, ρ, S, R.enter, (RunS.st R q).mono fun d S1 F1 H1 φ1 _ e1 p1 R1 ⟨R2, C, q1⟩ v hv => q1 v F1 H1 φ1 R2.core hv⟩
theorem psd_retN : PS X (.Return none pos) (tS X.K c W sRetN) := PS.imp ps_retN fun σ H D ⟨B, F, φ, ρ, S, R, q⟩ => q .non F H φ R.core .non
theorem psd_expr (he : PE X e (tD X.K c W ea)) (hs : swapsWith e none pos.line X.env = pure false := by rfl) : PS X (.Expr e pos) (tS X.K c W (sExpr ea)) := PS.imp (ps_expr he hs) fun σ H D ⟨B, F, φ, ρ, S, R, q⟩ =>
  ⟨_, F, φ, ρ, S, R.enter, (RunS.st R q).mono fun d S1 F1 H1 φ1 _ e1 p1 R1 ⟨R2, C, q1⟩ v hv => q1 σ F1 H1 φ1 (FExt.refl _) (PExt.refl _) R2⟩
theorem psd_set {i : Nat} (hN : X.N.Nodup) (hi : X.N[i]? = some x) (hx : Loc X.env.scope x) (he : PE X e (tD X.K c W ea)) (hs : swapsWith e (some (.Name x pos')) pos.line X.env = pure false := by rfl)
    (hf : X.fn x = true ∨ X.env.scope.names.lookup x = some .local := by first | exact .inl rfl | exact .inr rfl) : PS X (.Assign [.Name x pos'] e pos) (tS X.K c W (sSet i ea)) :=
  PS.imp (ps_set hN hi hx he hs hf) fun σ H D ⟨B, F, φ, ρ, S, R, q⟩ =>
    ⟨_, F, φ, ρ, S, R.enter, (RunS.st R q).mono fun d S1 F1 H1 φ1 _ e1 p1 R1 ⟨R2, C, q1⟩ v hv => q1 _ F1 H1 φ1 (FExt.refl _) (PExt.refl _) (R2.set' i hv)⟩
theorem toOwn_is {K : PySem.W.Frag} {F F' : Hp} {φ : Phi} {a : Addr} {d : DV} {s : SL} (h : IsD K F φ (.ref a) d) (e : toOwn d = some s) (ft : FTup F F') : ∃ u, F a = some u ∧ IsHO K F φ u s ∧ IsHO K F' φ u s := by
  cases h with
  | tup h1 h2 => cases e
  | scr h1 => cases e
  | obj h1 => cases e
  | lst h1 h2 =>
    dsimp only [toOwn] at e
    split at e
    · rename_i hn
      cases e
      exact ⟨_, h1, ⟨_, rfl, h2⟩, ⟨_, rfl, h2.drop ft hn⟩⟩
    · cases e
  | dk h1 h2 h3 =>
    dsimp only [toOwn] at e
    split at e
    · rename_i hn
      cases e
      exact ⟨_, h1, ⟨_, rfl, h2, h3⟩, ⟨_, rfl, h2, h3.drop ft hn⟩⟩
    · cases e
  | dt h1 h2 h3 =>
    dsimp only [toOwn] at e
    split at e
    · rename_i hn
      cases e
      exact ⟨_, h1, ⟨_, rfl, h2, h3⟩, ⟨_, rfl, h2, h3.drop ft hn⟩⟩
    · cases e
theorem cut1 {K : PySem.W.Frag} {F : Hp} {φ : Phi} {a : Addr} {u : HO} {s : SL} (h : F a = some u) (hs : IsHO K F φ u s) : FTup F (cut F (· = a)) := cut_tup _ fun b e => by
  subst e
  rw [h]
  exact ⟨fun xs z => hs.notbl.2.1 xs (Option.some.inj z), fun o w z => hs.notbl.2.2 o w (Option.some.inj z)⟩
theorem own_step {K : PySem.W.Frag} {B : Bs} {F H F1 H1 : Hp} {φ φ1 : Phi} {σ : St} {ρ : List SL} {S S1 : List DO} {D : Ends} {d : DV} {v : V} {i : Nat} (R : RelS K c B F H φ σ ρ S) (C : Core K c ⟨H, F, φ⟩ F1 H1 φ1 S1) (hv : IsD K F1 φ1 v d)
    (hn : ∃ a, v = .ref a ∧ H a = none) (q : RunS K c W B F φ (match toOwn d with
      | some s => if i < ρ.length then .nx (ρ.set i s) S1 else .bad
      | none => .bad) D) : D.nx (σ.set i (some v)) H1 := by
  obtain ⟨a, rfl, na⟩ := hn
  split at q
  · rename_i s hs
    split at q
    · rename_i hi
      obtain ⟨u, h1, h2, _⟩ := toOwn_is hv hs (F' := F1) ⟨fun _ _ z => z, fun _ _ _ z => z⟩
      obtain ⟨u', h1', _, h3⟩ := toOwn_is hv hs (F' := DL.cut F1 (· = a)) (cut1 h1 h2)
      rw [h1] at h1'
      cases h1'
      obtain ⟨T1, T2, T3⟩ := R.take' C na h1 h2 h3 i hi
      exact q _ _ _ _ T2 T3 T1
    · exact q.elim
  · exact q.elim
theorem psd_own {i : Nat} (hN : X.N.Nodup) (hi : X.N[i]? = some x) (hx : Loc X.env.scope x) (he : PE X e (tDn X.K c W ea)) (hs : swapsWith e (some (.Name x pos')) pos.line X.env = pure false := by rfl)
    (hf : X.fn x = true ∨ X.env.scope.names.lookup x = some .local := by first | exact .inl rfl | exact .inr rfl) : PS X (.Assign [.Name x pos'] e pos) (tS X.K c W (sOwn i ea)) :=
  PS.imp (ps_set hN hi hx he hs hf) fun σ H D ⟨B, F, φ, ρ, S, R, q⟩ =>
    ⟨_, F, φ, ρ, S, R.enter, (show Run X.K c W ⟨H, F, φ⟩ F φ σ ρ (ea ρ S) _ from (by
      unfold sOwn at q
      cases h : ea ρ S with
      | ok d S1 =>
        rw [h] at q
        exact fun F1 H1 φ1 e1 p1 R1 v hv hn => own_step R R1.core hv hn (show RunS X.K c W B F φ _ D from q)
      | exc y fs S' =>
        rw [h] at q
        exact fun cls dd F' H' φ' e p R' hx => q cls dd σ F' H' φ' e p (R.after R'.core) hx
      | bad => rw [h] at q; exact q))⟩
theorem psd_if {t : Expr} {bt be : List Stmt} {tt : Et} (ht : PT X t (tDt X.K c W tt)) (ha : PSs X bt (tS X.K c W sa)) (hb : PSs X be (tS X.K c W sb)) : PS X (.If t bt be pos) (tS X.K c W (sIf tt sa sb)) :=
  PS.imp (ps_if ht ha hb) fun σ H D ⟨B, F, φ, ρ, S, R, q⟩ =>
    ⟨_, F, φ, ρ, S, R.enter, (RunS.st R q).mono fun k S1 F1 H1 φ1 _ e1 p1 R1 ⟨R2, C, q1⟩ => by
      cases k with
      | true => rw [if_pos rfl]; rw [if_pos rfl] at q1; exact ⟨B, F1, φ1, ρ, S1, R2, q1⟩
      | false => rw [if_neg Bool.false_ne_true]; rw [if_neg Bool.false_ne_true] at q1; exact ⟨B, F1, φ1, ρ, S1, R2, q1⟩⟩
theorem psd_while {t : Expr} {body : List Stmt} {tt : Et} (N : Nat) (hp : PassesOwn (model X.prog X.w) X.A X.env X.xe) (ht : PT X t (tDt X.K c W tt)) (hb : PSs X body (tS X.K c W sb)) : PS X (.While t body [] pos) (tS X.K c W (sWhile tt sb N)) :=
  PS.imp (ps_while hp ht hb) fun σ H D ⟨B, F, φ, ρ, S, R, q⟩ => by
    refine ⟨fun m σ H => ∃ F φ ρ S, RelS X.K c B F H φ σ ρ S ∧ RunS X.K c W B F φ (sWhile tt sb m ρ S) D, ⟨N, F, φ, ρ, S, R, q⟩, ?_⟩
    rintro m σ H ⟨F, φ, ρ, S, R, q⟩
    cases m with
    | zero => exact q.elim
    | succ m =>
      refine ⟨_, F, φ, ρ, S, R.enter, (RunS.st R q).mono fun k S1 F1 H1 φ1 _ e1 p1 R1 ⟨R2, C, q1⟩ => ?_⟩
      cases k with
      | false => rw [if_neg Bool.false_ne_true]; rw [if_neg Bool.false_ne_true] at q1; exact q1 σ F1 H1 φ1 (FExt.refl _) (PExt.refl _) R2
      | true =>
        rw [if_pos rfl]
        rw [if_pos rfl] at q1
        refine ⟨fun σ' H' => ∃ F φ ρ S, RelS X.K c B F H' φ σ' ρ S ∧ RunS X.K c W B F φ (sWhile tt sb m ρ S) D, fun σ' H' h => ⟨m, Nat.lt_succ_self m, h⟩, B, F1, φ1, ρ, S1, R2, ?_⟩
        cases h : sb ρ S1 with
        | nx ρ' S' => rw [h] at q1; exact fun σ' F' H' φ' e p R' => ⟨F', φ', ρ', S', R', q1.ext e p⟩
        | ct ρ' S' => rw [h] at q1; exact fun σ' F' H' φ' e p R' => ⟨F', φ', ρ', S', R', q1.ext e p⟩
        | bk ρ' S' => rw [h] at q1; exact q1
        | rt d S' => rw [h] at q1; exact q1
        | exc y fs ρ' S' => rw [h] at q1; exact q1
        | bad => rw [h] at q1; exact q1

/-! ### freezing -/
def frz1 (i : Nat) (ρ : List SL) : List SL := match ρ[i]? with
  | some s => ρ.set i s.frz
  | none => ρ
theorem RelS.frz1 {K : PySem.W.Frag} {B : Bs} {F H : Hp} {φ : Phi} {σ : St} {ρ : List SL} {S : List DO} (R : RelS K c B F H φ σ ρ S) (i : Nat) : ∃ F', FExt F F' ∧ RelS K c B F' H φ σ (DL.frz1 i ρ) S := by
  unfold DL.frz1
  cases hs : ρ[i]? with
  | none => exact ⟨F, FExt.refl _, R⟩
  | some s =>
    have hlt : i < ρ.length := (List.getElem?_eq_some_iff.mp hs).1
    by_cases ho : s.own = true
    · obtain ⟨a, u, e, g1, g2, g3, g4, g5⟩ := (R.sl i s hs).at ho
      have fe : FExt F (upd F a u) := fun b o h => by rw [upd_ne fun z => by rw [z, g1] at h; cases h]; exact h
      refine ⟨upd F a u, fe, ⟨⟨R.core.f0.trans fe, fun b o h => ?_, fun b o h => ?_, R.core.kp, R.core.ex, R.core.ph, R.core.nd, fun b hb => ?_, R.core.ln, fun j q o h1 h2 => (R.core.ob j q o h1 h2).mono fe (PExt.refl _), R.core.tb, fun b ps h => ?_⟩, by simpa using R.len, fun j t ht => ?_, fun j l t r b h1 h2 o1 o2 e1 e2 => ?_⟩⟩
      · by_cases z : b = a
        · subst z; rw [upd_same] at h; cases h; exact g4
        · rw [upd_ne z] at h; exact R.core.fh b o h
      · by_cases z : b = a
        · subst z; exact .inr g3
        · rw [upd_ne z] at h; exact R.core.fn b o h
      · rw [upd_ne fun z => g2 (by rw [← z]; exact hb)]; exact R.core.pf b hb
      · by_cases z : b = a
        · subst z; rw [upd_same] at h; exact g5.notbl.1 ps (Option.some.inj h)
        · rw [upd_ne z] at h; exact R.core.ft b ps h
      · by_cases hj : i = j
        · subst hj
          rw [List.getElem?_set_self hlt] at ht
          cases ht
          have g6 := g5.mono fe (PExt.refl φ)
          cases s with
          | emp => cases ho
          | val d => cases ho
          | ol l => exact ⟨.ref a, e, g6.isD upd_same rfl⟩
          | ok l => exact ⟨.ref a, e, g6.isD upd_same rfl⟩
          | ot l => exact ⟨.ref a, e, g6.isD upd_same rfl⟩
        · rw [List.getElem?_set_ne hj] at ht
          by_cases hot : t.own = true
          · obtain ⟨b, w, k1, k2, k3, k4, k5, k6⟩ := (R.sl j t ht).at hot
            refine .mk hot ⟨b, w, k1, ?_, k3, k4, k5, k6.mono fe (PExt.refl _)⟩
            rw [upd_ne fun z => hj (R.ap i j s t a hs ht ho hot e (by rw [← z]; exact k1))]
            exact k2
          · cases t with
            | val d =>
              obtain ⟨v, k1, k2⟩ := R.sl j _ ht
              exact ⟨v, k1, k2.mono fe (PExt.refl _)⟩
            | emp => trivial
            | _ => exact absurd rfl hot
      · have hh : ∀ (j : Nat) t, (ρ.set i s.frz)[j]? = some t → t.own = true → i ≠ j := fun j t h o e => by
          subst e
          rw [List.getElem?_set_self hlt] at h
          cases h
          cases s <;> cases o
        have hj := hh j t h1 o1
        have hl := hh l r h2 o2
        rw [List.getElem?_set_ne hj] at h1
        rw [List.getElem?_set_ne hl] at h2
        exact R.ap j l t r b h1 h2 o1 o2 e1 e2
    · have e : s.frz = s := by cases s <;> first | rfl | exact absurd rfl ho
      refine ⟨F, FExt.refl _, ?_⟩
      show RelS K c B F H φ σ (ρ.set i s.frz) S
      have e2 : ρ.set i s = ρ := by
        have := (List.getElem?_eq_some_iff.mp hs).2
        rw [← this]
        exact List.set_getElem_self hlt
      rw [e, e2]
      exact R
def sFrz (i : Nat) (f : Sv) : Sv := fun ρ S => f (frz1 i ρ) S
theorem RunS.unext {K : PySem.W.Frag} {B : Bs} {F F1 : Hp} {φ : Phi} {r : DF} {D : Ends} (h : RunS K c W B F φ r D) (e : FExt F F1) : RunS K c W B F1 φ r D := h.ext e (PExt.refl _)
theorem psd_frz {i : Nat} (h : PS X st (tS X.K c W sa)) : PS X st (tS X.K c W (sFrz i sa)) := PS.imp h fun σ H D ⟨B, F, φ, ρ, S, R, q⟩ => by
  obtain ⟨F', fe, R'⟩ := R.frz1 i
  exact ⟨B, F', φ, _, S, R', q.unext fe⟩
end
end DL

namespace DL
open PySem PySem.Spec L2
open PyProof.Rows hiding St

/-! ### a def by its body -/
def mkFn (n : Nat) (f : Sv) : Fn := fun ds S => match f (ds.map SL.val ++ List.replicate (n - ds.length) SL.emp) S with
  | .nx _ S' => .ok .non S'
  | .rt d S' => .ok d S'
  | .exc x fs _ S' => .exc x fs S'
  | _ => .bad
/-- what a body's rules ask of its context -/
structure Go (X : Cx) (W : WX) (k : Nat) : Prop where
  calm : X.calm = true
  nd : X.N.Nodup
  rm : Room k X.A
  tk : Takes X W
  po : PassesOwn (model X.prog X.w) X.A X.env X.xe
  st : X.stack = X.env :: X.outer
  hf : X.env.frame = some X.env.locals
abbrev cxF (P : Program) (w : World) (K : PySem.W.Frag) (mg : Str → Option Value) (base : Heap) (N : List Str) (qual : Str) (st : Stmt) (f : Addr) (cdv : Value) (A : Around) (outer : List Env) (s : Shared) (H : Hp) (E : XK) : Cx :=
  cxOf (L2.CX P w) P w K mg base N qual (defScope st) f cdv A outer s H E
abbrev wE (E : XK) : WX := fun cls d _ H => E cls d H
section
variable {P : Program} {w : World} {K : PySem.W.Frag} {mg : Str → Option Value} {base : Heap}
theorem isDs_start {F : Hp} {φ : Phi} {vs : List V} {ds : List DV} (h : IsDs K F φ vs ds) (n : Nat) : ∀ (i : Nat) s, (ds.map SL.val ++ List.replicate n SL.emp)[i]? = some s → s = .emp ∨ ∃ d v, s = .val d ∧ (vs.map some ++ List.replicate n none)[i]? = some (some v) ∧ IsD K F φ v d := fun i s hs => by
  by_cases hi : i < ds.length
  · rw [List.getElem?_append_left (by simpa using hi), List.getElem?_map] at hs
    rw [List.getElem?_append_left (by rw [List.length_map, h.length]; exact hi), List.getElem?_map]
    cases q : ds[i]? with
    | none => rw [q] at hs; cases hs
    | some d =>
      rw [q] at hs
      obtain ⟨v, h1, h2⟩ := h.get q
      rw [h1]
      exact .inr ⟨d, v, (Option.some.inj hs).symm, rfl, h2⟩
  · rw [List.getElem?_append_right (by simpa using hi), List.getElem?_replicate] at hs
    split at hs
    · exact .inl (Option.some.inj hs).symm
    · cases hs
theorem ok_def {c : DC} {x qual : Str} {st : Stmt} {f : Addr} {fd : FuncData} {N ps : List Str} {k : Nat} {sv : Sv} (F : Fun K x qual st f fd) (S : FnScope N ps (defScope st))
    (hb : ∀ (cdv : Value) (A : Around) (outer : List Env) (s : Shared) (H : Hp) (E : XK), Go (cxF P w K mg base N qual st f cdv A outer s H E) (wE E) k → PSs (cxF P w K mg base N qual st f cdv A outer s H E) (defBody st) (tS K c (wE E) sv)) :
    FnOk P w K mg base (L2.CX P w) (k + 1) f fd ps (spD K c ps.length (mkFn N.length sv)) := by
  refine F.okX S (fun vs H Q E h => ?_) (fun cdv A outer s H vs Q E hr h => ?_)
  · obtain ⟨F, φ, S, ds, _, hv, hl, _⟩ := h
    exact hv.length.trans hl
  · refine ⟨_, hb cdv A outer s H E ⟨rfl, S.nd, hr, takes_of rfl rfl rfl rfl, passes_of rfl, rfl, rfl⟩, ?_⟩
    obtain ⟨F, φ, S', ds, C, hv, hl, q⟩ := h
    have hlen := hv.length
    refine ⟨⟨H, F, φ⟩, F, φ, ds.map SL.val ++ List.replicate (N.length - ds.length) SL.emp, S', ⟨C, ?_, fun i s hs => ?_, fun i j s t a h1 h2 o1 => ?_⟩, ?_⟩
    · unfold L2.start
      rw [List.length_append, List.length_append, List.length_map, List.length_map, List.length_replicate, List.length_replicate, hlen]
    · unfold L2.start
      rw [← hlen] at hs
      rcases isDs_start hv (N.length - vs.length) i s hs with rfl | ⟨d, v, rfl, h1, h2⟩
      · trivial
      · exact ⟨v, h1, h2⟩
    · rcases isDs_start hv (N.length - ds.length) i s h1 with rfl | ⟨d, v, rfl, _, _⟩
      · cases o1
      · cases o1
    · unfold mkFn at q
      cases hf : sv (ds.map SL.val ++ List.replicate (N.length - ds.length) SL.emp) S' with
      | nx ρ' S2 => rw [hf] at q; exact fun σ' F' H' φ' e p R' => q .non F' H' φ' R'.core .non
      | rt d S2 => rw [hf] at q; exact q
      | exc y fs ρ' S2 => rw [hf] at q; exact fun cls dd σ' F' H' φ' e p R' hx => q cls dd F' H' φ' R'.core hx
      | bk ρ' S2 => rw [hf] at q; exact q.elim
      | ct ρ' S2 => rw [hf] at q; exact q.elim
      | bad => rw [hf] at q; exact q.elim
end

/-! ### the slots' own lists changed -/
def onL (i : Nat) (ρ : List SL) (f : List DV → DF) : DF := match ρ[i]? with
  | some (.ol l) => f l
  | _ => .bad
def sApp (i : Nat) (e : Ev) : Sv := fun ρ S => onL i ρ fun l => (e ρ S).st ρ fun d S1 => if l.length < 16777216 then .nx (ρ.set i (.ol (l ++ [d]))) S1 else .bad
def sExt (i : Nat) (e : Ev) : Sv := fun ρ S => onL i ρ fun l => (e ρ S).st ρ fun d S1 => match d with
  | .lst r => if l.length + r.length ≤ 16777216 then .nx (ρ.set i (.ol (l ++ r))) S1 else .bad
  | _ => .bad
/-- y = x.pop() -/
def sPopTo (j i : Nat) : Sv := fun ρ S => onL i ρ fun l => match l[l.length - 1]? with
  | some d => .nx ((ρ.set i (.ol l.dropLast)).set j (.val d)) S
  | none => .bad
def sPop (i : Nat) : Sv := fun ρ S => onL i ρ fun l => match l[l.length - 1]? with
  | some d => .nx (ρ.set i (.ol l.dropLast)) S
  | none => .bad
def sPut (i : Nat) (ei ee : Ev) : Sv := fun ρ S => (ee ρ S).st ρ fun d S1 => onL i ρ fun l => (ei ρ S1).st ρ fun ix S2 => match ix with
  | .int k => match ixN l.length k with
    | some j => .nx (ρ.set i (.ol (l.set j d))) S2
    | none => .bad
  | _ => .bad
theorem onL_of {K : PySem.W.Frag} {c : DC} {W : WX} {B : Bs} {F : Hp} {φ : Phi} {i : Nat} {ρ : List SL} {f : List DV → DF} {D : Ends} (h : RunS K c W B F φ (onL i ρ f) D) : ∃ l, ρ[i]? = some (.ol l) ∧ RunS K c W B F φ (f l) D := by
  unfold onL at h
  split at h
  · rename_i l hl
    exact ⟨l, hl, h⟩
  · exact h.elim
theorem IsDs.dropLast {K : PySem.W.Frag} {F : Hp} {φ : Phi} : ∀ {vs : List V} {ds : List DV}, IsDs K F φ vs ds → IsDs K F φ vs.dropLast ds.dropLast
  | _, _, .nil => .nil
  | _, _, .cons h .nil => .nil
  | _, _, .cons h (.cons h2 r) => .cons h (IsDs.dropLast (.cons h2 r))
section
variable {X : Cx} {c : DC} {W : WX} {a b e : Expr} {es : List Expr} {ea eb ei : Ev} {er : Evs} {pos p pos' apos : Pos} {x : Str} {st : Stmt} {rest : List Stmt} {sa sb : Sv}
theorem own_at {K : PySem.W.Frag} {B : Bs} {F H : Hp} {φ : Phi} {σ : St} {ρ : List SL} {S : List DO} (R : RelS K c B F H φ σ ρ S) {i : Nat} {l : List DV} (hi : ρ[i]? = some (.ol l)) :
    ∃ a xs, σ[i]? = some (some (.ref a)) ∧ H a = some (.lst xs) ∧ IsDs K F φ xs l := by
  obtain ⟨a, u, e, g1, g2, g3, g4, xs, rfl, g5⟩ := (R.sl i _ hi).at rfl
  exact ⟨a, xs, e, g4, g5⟩
/-- x.append(e) -/
theorem psd_app {i : Nat} (hcall : PE X (.Call (.Attribute (.Name x p) "append" apos) [e] [] pos) (tBM X.K "list" rAppend (tVar i) (tCons (tD X.K c W ea) tNil)))
    (hs : swapsWith (.Call (.Attribute (.Name x p) "append" apos) [e] [] pos) none pos'.line X.env = pure false := by rfl) : PS X (.Expr (.Call (.Attribute (.Name x p) "append" apos) [e] [] pos) pos') (tS X.K c W (sApp i ea)) :=
  PS.imp (ps_expr hcall hs) fun σ H D ⟨B, F, φ, ρ, S, R, q⟩ => by
    obtain ⟨l, hi, q⟩ := onL_of q
    obtain ⟨a, xs, e1, e2, e3⟩ := own_at R hi
    refine ⟨.ref a, e1, .inl ⟨rfl, xs, SqL.of e2⟩, _, F, φ, ρ, S, R.enter, (RunS.st R q).mono fun d S1 F1 H1 φ1 _ _ _ _ ⟨R1, C, q1⟩ v hv => ?_⟩
    split at q1
    · rename_i hl
      obtain ⟨a', xs', g1, g2, g3⟩ := own_at R1 hi
      rw [e1] at g1
      cases g1
      refine ⟨a, xs', v, rfl, rfl, g2, ?_, ?_⟩
      · rw [g3.length, sizeLine_eq]; exact hl
      · exact q1 σ F1 _ φ1 (FExt.refl _) (PExt.refl _) (R1.chg hi rfl e1 g2 (s' := .ol (l ++ [d])) ⟨_, rfl, g3.append (.cons hv .nil)⟩)
    · exact q1.elim
/-- x.extend(e) -/
theorem psd_ext {i : Nat} (hcall : PE X (.Call (.Attribute (.Name x p) "extend" apos) [e] [] pos) (tBM X.K "list" rExtend (tVar i) (tCons (tD X.K c W ea) tNil)))
    (hs : swapsWith (.Call (.Attribute (.Name x p) "extend" apos) [e] [] pos) none pos'.line X.env = pure false := by rfl) : PS X (.Expr (.Call (.Attribute (.Name x p) "extend" apos) [e] [] pos) pos') (tS X.K c W (sExt i ea)) :=
  PS.imp (ps_expr hcall hs) fun σ H D ⟨B, F, φ, ρ, S, R, q⟩ => by
    obtain ⟨l, hi, q⟩ := onL_of q
    obtain ⟨a, xs, e1, e2, e3⟩ := own_at R hi
    refine ⟨.ref a, e1, .inl ⟨rfl, xs, SqL.of e2⟩, _, F, φ, ρ, S, R.enter, (RunS.st R q).mono fun d S1 F1 H1 φ1 _ _ _ _ ⟨R1, C, q1⟩ v hv => ?_⟩
    cases d with
    | lst r =>
      cases hv with
      | lst h1 h2 =>
        rename_i b ys
        dsimp only at q1
        split at q1
        · rename_i hl
          obtain ⟨a', xs', g1, g2, g3⟩ := own_at R1 hi
          rw [e1] at g1
          cases g1
          refine ⟨a, b, xs', ys, rfl, rfl, g2, R1.core.fh _ _ h1, ?_, ?_⟩
          · rw [g3.length, h2.length, sizeLine_eq]; exact hl
          · exact q1 σ F1 _ φ1 (FExt.refl _) (PExt.refl _) (R1.chg hi rfl e1 g2 (s' := .ol (l ++ r)) ⟨_, rfl, g3.append h2⟩)
        · exact q1.elim
    | _ => exact q1.elim
/-- y = x.pop() -/
theorem psd_popTo {i j : Nat} {y : Str} (hN : X.N.Nodup) (hj : X.N[j]? = some y) (hy : Loc X.env.scope y) (hcall : PE X (.Call (.Attribute (.Name x p) "pop" apos) [] [] pos) (tBM0 X.K "list" rPop (tVar i)))
    (hs : swapsWith (.Call (.Attribute (.Name x p) "pop" apos) [] [] pos) (some (.Name y p')) pos'.line X.env = pure false := by rfl)
    (hf : X.fn y = true ∨ X.env.scope.names.lookup y = some .local := by first | exact .inl rfl | exact .inr rfl) : PS X (.Assign [.Name y p'] (.Call (.Attribute (.Name x p) "pop" apos) [] [] pos) pos') (tS X.K c W (sPopTo j i)) :=
  PS.imp (ps_set hN hj hy hcall hs hf) fun σ H D ⟨B, F, φ, ρ, S, R, q⟩ => by
    obtain ⟨l, hi, q⟩ := onL_of q
    obtain ⟨a, xs, e1, e2, e3⟩ := own_at R hi
    refine ⟨.ref a, e1, .inl ⟨rfl, xs, SqL.of e2⟩, a, xs, ?_⟩
    split at q
    · rename_i d hd
      rw [← e3.length] at hd
      obtain ⟨v, h1, h2⟩ := e3.get hd
      exact ⟨v, rfl, rfl, e2, h1, q _ F _ φ (FExt.refl _) (PExt.refl _) ((R.chg hi rfl e1 e2 (s' := .ol l.dropLast) ⟨_, rfl, e3.dropLast⟩).set' j h2)⟩
    · exact q.elim
/-- x.pop() -/
theorem psd_pop {i : Nat} (hcall : PE X (.Call (.Attribute (.Name x p) "pop" apos) [] [] pos) (tBM0 X.K "list" rPop (tVar i)))
    (hs : swapsWith (.Call (.Attribute (.Name x p) "pop" apos) [] [] pos) none pos'.line X.env = pure false := by rfl) : PS X (.Expr (.Call (.Attribute (.Name x p) "pop" apos) [] [] pos) pos') (tS X.K c W (sPop i)) :=
  PS.imp (ps_expr hcall hs) fun σ H D ⟨B, F, φ, ρ, S, R, q⟩ => by
    obtain ⟨l, hi, q⟩ := onL_of q
    obtain ⟨a, xs, e1, e2, e3⟩ := own_at R hi
    refine ⟨.ref a, e1, .inl ⟨rfl, xs, SqL.of e2⟩, a, xs, ?_⟩
    split at q
    · rename_i d hd
      rw [← e3.length] at hd
      obtain ⟨v, h1, h2⟩ := e3.get hd
      exact ⟨v, rfl, rfl, e2, h1, q _ F _ φ (FExt.refl _) (PExt.refl _) (R.chg hi rfl e1 e2 (s' := .ol l.dropLast) ⟨_, rfl, e3.dropLast⟩)⟩
    · exact q.elim
/-- x[k] = e -/
theorem psd_put {i : Nat} {ix : Expr} {p2 : Pos} (hx : PE X (.Name x p) (tVar i)) (hi' : PE X ix (tD X.K c W ei)) (he : PE X e (tD X.K c W ea))
    (ha : ∀ v, assign (.Subscript (.Name x p) ix p2) X.env v = (do
      let ov ← holding [v] (eval (.Name x p) X.env)
      let iv ← holding [v, ov] (eval ix X.env)
      standAt p2
      holding [v, ov, iv] (setItem ov iv v)
      release [v, ov, iv] []) := by intro _; rfl)
    (hs : swapsWithSole [.Subscript (.Name x p) ix p2] e pos.line X.env = pure false := by rfl) (hw : swappedStores [.Subscript (.Name x p) ix p2] e X.env = pure none := by rfl)
    (h1 : (assignEach [.Subscript (.Name x p) ix p2] X.env).map (·.2) = [assign (.Subscript (.Name x p) ix p2) X.env] := by rfl) : PS X (.Assign [.Subscript (.Name x p) ix p2] e pos) (tS X.K c W (sPut i ei ea)) :=
  PS.imp (ps_asg he (pg_sub hx hi' set_list ha) hs hw h1) fun σ H D ⟨B, F, φ, ρ, S, R, q⟩ =>
    ⟨_, F, φ, ρ, S, R.enter, (RunS.st R q).mono fun d S1 F1 H1 φ1 _ _ _ _ ⟨R1, C, q1⟩ v hv => by
      obtain ⟨l, hi, q1⟩ := onL_of q1
      obtain ⟨a, xs, e1, e2, e3⟩ := own_at R1 hi
      refine ⟨.ref a, e1, _, F1, φ1, ρ, S1, R1.enter, (RunS.st R1 q1).mono fun k S2 F2 H2 φ2 _ ee pp _ ⟨R2, C2, q2⟩ kv hk => ?_⟩
      obtain ⟨a', xs', g1, g2, g3⟩ := own_at R2 hi
      rw [e1] at g1
      cases g1
      cases k with
      | int k =>
        cases hk
        dsimp only at q2
        split at q2
        · rename_i j hj
          exact ⟨a, xs', k, j, rfl, rfl, g2, by rw [g3.length]; exact hj, q2 σ F2 _ φ2 (FExt.refl _) (PExt.refl _) (R2.chg hi rfl e1 g2 (s' := .ol (l.set j d)) ⟨_, rfl, g3.set (hv.mono ee pp) j⟩)⟩
        · exact q2.elim
      | _ => exact q2.elim⟩

/-! ### targets -/
abbrev Ag := DV → List SL → Option (List SL)
abbrev Ags := List DV → List SL → Option (List SL)
def agN (i : Nat) : Ag := fun d ρ => some (ρ.set i (.val d))
def agsNil : Ags := fun ds ρ => if ds.isEmpty then some ρ else none
def agsCons (g : Ag) (gs : Ags) : Ags := fun ds ρ => match ds with
  | d :: r => (g d ρ).bind fun ρ' => gs r ρ'
  | [] => none
def agT (n : Nat) (gs : Ags) : Ag := fun d ρ => match d with
  | .tup ds => if ds.length = n then gs ds ρ else none
  | _ => none
/-- the slots but those at ws are as they were -/
def Off (ws : List Nat) (σ σ' : St) : Prop := σ'.length = σ.length ∧ ∀ i, i ∉ ws → σ'[i]? = σ[i]?
theorem Off.refl (ws : List Nat) (σ : St) : Off ws σ σ := ⟨rfl, fun _ _ => rfl⟩
theorem Off.trans {u v : List Nat} {σ σ' σ2 : St} (a : Off u σ σ') (b : Off v σ' σ2) : Off (u ++ v) σ σ2 := ⟨b.1.trans a.1, fun i h => by
  rw [List.mem_append, not_or] at h
  exact (b.2 i h.2).trans (a.2 i h.1)⟩
theorem Off.set (σ : St) (i : Nat) (v : Option V) : Off [i] σ (σ.set i v) := ⟨List.length_set, fun j h => List.getElem?_set_ne (fun e => h (by simp [e]))⟩
def tG (K : PySem.W.Frag) (c : DC) (ws : List Nat) (g : Ag) : TG := fun v σ H Q => ∃ B F φ ρ S d ρ', RelS K c B F H φ σ ρ S ∧ IsD K F φ v d ∧ g d ρ = some ρ' ∧ ∀ σ', RelS K c B F H φ σ' ρ' S → Off ws σ σ' → Q σ' H
def tGs (K : PySem.W.Frag) (c : DC) (ws : List Nat) (g : Ags) : TGs := fun v σ H Q => ∃ B F φ ρ S d ρ', RelS K c B F H φ σ ρ S ∧ IsDs K F φ v d ∧ g d ρ = some ρ' ∧ ∀ σ', RelS K c B F H φ σ' ρ' S → Off ws σ σ' → Q σ' H
def sAsg (g : Ag) (e : Ev) : Sv := fun ρ S => (e ρ S).st ρ fun d S1 => match g d ρ with
  | some ρ' => .nx ρ' S1
  | none => .bad
theorem PGs.imp {ts : List Expr} {t t' : TGs} (h : PGs X ts t) (m : ∀ v σ H Q, t' v σ H Q → t v σ H Q) : PGs X ts t' := ⟨fun pins s σ H v u Q I r hw => h.run pins s σ H v u Q I r (m v σ H Q hw)⟩
theorem pgd_name {i : Nat} (hN : X.N.Nodup) (hi : X.N[i]? = some x) (hx : Loc X.env.scope x) (hf : X.fn x = true ∨ X.env.scope.names.lookup x = some .local := by first | exact .inl rfl | exact .inr rfl) : PG X (.Name x pos) (tG X.K c [i] (agN i)) :=
  PG.imp (pg_name hN hi hx hf) fun v σ H Q ⟨B, F, φ, ρ, S, d, ρ', R, hv, hg, q⟩ => by
    cases hg
    exact q _ (R.set' i hv) (Off.set _ _ _)
theorem pgsd_nil : PGs X [] (tGs X.K c [] agsNil) := PGs.imp pgs_nil fun v σ H Q ⟨B, F, φ, ρ, S, d, ρ', R, hv, hg, q⟩ => by
  unfold agsNil at hg
  split at hg
  · rename_i hd
    cases hg
    cases d with
    | nil => cases hv; exact ⟨rfl, q _ R (Off.refl _ _)⟩
    | cons _ _ => cases hd
  · cases hg
theorem pgsd_cons {g : Ag} {gs : Ags} {u v : List Nat} (h1 : PG X e (tG X.K c u g)) (h2 : PGs X es (tGs X.K c v gs)) (hs : (assignEach (e :: es) X.env).map (·.2) = assign e X.env :: (assignEach es X.env).map (·.2) := by rfl) : PGs X (e :: es) (tGs X.K c (u ++ v) (agsCons g gs)) :=
  PGs.imp (pgs_cons h1 h2 hs) fun v σ H Q ⟨B, F, φ, ρ, S, d, ρ', R, hv, hg, q⟩ => by
    cases hv with
    | nil => cases hg
    | @cons v vs d ds h r =>
      dsimp only [agsCons] at hg
      cases h3 : g d ρ with
      | none => rw [h3] at hg; cases hg
      | some ρ1 =>
        rw [h3] at hg
        exact ⟨v, vs, rfl, B, F, φ, ρ, S, d, ρ1, R, h, h3, fun σ1 R1 o1 => ⟨B, F, φ, ρ1, S, ds, ρ', R1, r, hg, fun σ2 R2 o2 => q σ2 R2 (o1.trans o2)⟩⟩
theorem pgd_tup {gs : Ags} {k n : Nat} {u : List Nat} (hc : X.calm = true) (h : PGs X es (tGs X.K c u gs)) (hn : (assignEach es X.env).length = n := by rfl) (hst : (assignEach es X.env).findIdx? (·.1) = none := by rfl) : PG X (.Tuple es k pos) (tG X.K c u (agT n gs)) :=
  PG.imp (pg_tup hc h hn hst) fun v σ H Q ⟨B, F, φ, ρ, S, d, ρ', R, hv, hg, q⟩ => by
    cases hv with
    | @tup a xs ds h1 h2 =>
      dsimp only [agT] at hg
      split at hg
      · rename_i hl
        exact ⟨a, xs, rfl, sqT_of R.core.fh h1, h2.length.trans hl, B, F, φ, ρ, S, _, ρ', R, h2, hg, q⟩
      · cases hg
    | _ => cases hg
theorem psd_asg {tg : Expr} {g : Ag} {u : List Nat} (he : PE X e (tD X.K c W ea)) (hg : PG X tg (tG X.K c u g)) (hs : swapsWithSole [tg] e pos.line X.env = pure false := by rfl) (hw : swappedStores [tg] e X.env = pure none := by rfl)
    (h1 : (assignEach [tg] X.env).map (·.2) = [assign tg X.env] := by rfl) : PS X (.Assign [tg] e pos) (tS X.K c W (sAsg g ea)) :=
  PS.imp (ps_asg he hg hs hw h1) fun σ H D ⟨B, F, φ, ρ, S, R, q⟩ =>
    ⟨_, F, φ, ρ, S, R.enter, (RunS.st R q).mono fun d S1 F1 H1 φ1 _ _ _ _ ⟨R1, C, q1⟩ v hv => by
      split at q1
      · rename_i ρ' hg'
        exact ⟨B, F1, φ1, ρ, S1, d, ρ', R1, hv, hg', fun σ' R' _ => q1 σ' F1 H1 φ1 (FExt.refl _) (PExt.refl _) R'⟩
      · exact q1.elim⟩
/-- a, b = e1, e2 -/
def sPar (i j : Nat) (er : Evs) : Sv := fun ρ S => (er ρ S).st ρ fun ds S1 => match ds with
  | [d, e] => .nx ((ρ.set i (.val d)).set j (.val e)) S1
  | _ => .bad
def sPar3 (i j l : Nat) (er : Evs) : Sv := fun ρ S => (er ρ S).st ρ fun ds S1 => match ds with
  | [d, e, f] => .nx (((ρ.set i (.val d)).set j (.val e)).set l (.val f)) S1
  | _ => .bad
theorem psd_par {i j : Nat} {x y : Str} {px py pt : Pos} {kt k2 pt2} (hc : X.calm = true) (hN : X.N.Nodup) (hi : X.N[i]? = some x) (hj : X.N[j]? = some y) (hij : i ≠ j)
    (hx : X.env.scope.names.lookup x = some .local) (hy : X.env.scope.names.lookup y = some .local) (ha : PA X [a, b] (tDs X.K c W er))
    (hw : swappedStores [.Tuple [.Name x px, .Name y py] kt pt] (.Tuple [a, b] k2 pt2) X.env = pure (some [x, y]))
    (hs : swapsWithSole [.Tuple [.Name x px, .Name y py] kt pt] (.Tuple [a, b] k2 pt2) pos.line X.env = pure false := by rfl) :
    PS X (.Assign [.Tuple [.Name x px, .Name y py] kt pt] (.Tuple [a, b] k2 pt2) pos) (tS X.K c W (sPar i j er)) :=
  PS.imp (ps_par hc hN hi hj hij hx hy ha hw hs) fun σ H D ⟨B, F, φ, ρ, S, R, q⟩ =>
    ⟨_, F, φ, ρ, S, R.enter, (RunS.st R q).mono fun ds S1 F1 H1 φ1 _ _ _ _ ⟨R1, C, q1⟩ vs hv => by
      split at q1
      · rename_i d e
        cases hv with
        | cons h r =>
          cases r with
          | cons h' r =>
            cases r
            exact ⟨_, _, rfl, q1 _ F1 H1 φ1 (FExt.refl _) (PExt.refl _) ((R1.set' i h).set' j h')⟩
      · exact q1.elim⟩
theorem psd_par3 {i j l : Nat} {x y z : Str} {c3 : Expr} {px py pz pt : Pos} {kt k2 pt2} (hc : X.calm = true) (hN : X.N.Nodup) (hi : X.N[i]? = some x) (hj : X.N[j]? = some y) (hl : X.N[l]? = some z) (hij : i ≠ j) (hil : i ≠ l) (hjl : j ≠ l)
    (hp : PS X (.Assign [.Tuple [.Name x px, .Name y py, .Name z pz] kt pt] (.Tuple [a, b, c3] k2 pt2) pos) (tPar3 i j l (tDs X.K c W er))) :
    PS X (.Assign [.Tuple [.Name x px, .Name y py, .Name z pz] kt pt] (.Tuple [a, b, c3] k2 pt2) pos) (tS X.K c W (sPar3 i j l er)) :=
  PS.imp hp fun σ H D ⟨B, F, φ, ρ, S, R, q⟩ =>
    ⟨_, F, φ, ρ, S, R.enter, (RunS.st R q).mono fun ds S1 F1 H1 φ1 _ _ _ _ ⟨R1, C, q1⟩ vs hv => by
      split at q1
      · rename_i d e f
        cases hv with
        | cons h r =>
          cases r with
          | cons h' r =>
            cases r with
            | cons h2 r =>
              cases r
              exact ⟨_, _, _, rfl, q1 _ F1 H1 φ1 (FExt.refl _) (PExt.refl _) (((R1.set' i h).set' j h').set' l h2)⟩
      · exact q1.elim⟩
/-- x op= e -/
def sAug (i : Nat) (g : DV → DV → Option DV) (e : Ev) : Sv := fun ρ S => match ρ[i]? with
  | some (.val d) => (e ρ S).st ρ fun d2 S1 => match g d d2 with
    | some d3 => .nx (ρ.set i (.val d3)) S1
    | none => .bad
  | _ => .bad
theorem psd_aug {i : Nat} {op : Operator} {ti : TIp} {g : DV → DV → Option DV} (hN : X.N.Nodup) (hi : X.N[i]? = some x) (hx : Loc X.env.scope x) (he : PE X e (tD X.K c W ea)) (ho : PIp X op ti) (hg : OpD X.K c ti g)
    (hf : X.fn x = true ∨ X.env.scope.names.lookup x = some .local := by first | exact .inl rfl | exact .inr rfl) : PS X (.AugAssign (.Name x pos') op e pos) (tS X.K c W (sAug i g ea)) :=
  PS.imp (ps_aug hN hi hx he ho hf) fun σ H D ⟨B, F, φ, ρ, S, R, q⟩ => by
    unfold sAug at q
    split at q
    · rename_i d hd
      obtain ⟨v, e1, hv⟩ := R.sl i _ hd
      refine ⟨v, e1, _, F, φ, ρ, S, R.enter, (RunS.st R q).mono fun d2 S1 F1 H1 φ1 _ ee pp RE ⟨R1, C, q1⟩ y hy => ?_⟩
      split at q1
      · rename_i d3 h3
        exact hg _ F1 H1 φ1 σ ρ S1 v y d d2 d3 _ R1.enter (hv.mono ee pp) hy h3 fun z F' H' fe R' hz => q1 _ F' H' φ1 fe (PExt.refl _) ((R1.after R'.core).set' i hz)
      · exact q1.elim
    · exact q.elim
end
end DL

namespace DL
open PySem PySem.Spec L2
open PyProof.Rows hiding St

/-! ### what is walked -/
abbrev Ei := EnvD → List DO → DR (List DV)
/-- J walks the items ds while what is frozen in F stands -/
def Wk (K : PySem.W.Frag) (F : Hp) (φ : Phi) (J : It) (ds : List DV) : Prop := ∀ (i : Nat) (H : Hp), FExt F H → (i < ds.length → J.go i H) ∧ (ds.length ≤ i → J.stop i H) ∧
  ∀ x H', J.yld i H x H' → ∀ d, ds[i]? = some d → (H' = H ∧ IsD K F φ x d) ∨ ∃ T xs es, H T = none ∧ H' = upd H T (.tup xs) ∧ x = .ref T ∧ d = .tup es ∧ IsDs K F φ xs es
def tI (K : PySem.W.Frag) (c : DC) (W : WX) (f : Ei) : TI := fun σ H R => ∃ B F φ ρ S, RelE K c B F H φ σ ρ S ∧ Run K c W B F φ σ ρ (f ρ S) fun ds _ F' H' φ' => ∀ J, Wk K F' φ' J ds → R J H'
def iOf (e : Ev) : Ei := fun ρ S => (e ρ S).bind fun d S1 => match d with
  | .lst l => .ok l S1
  | .tup l => .ok l S1
  | .scr l => .ok (l.map DV.int) S1
  | _ => .bad
def rgL (lo : Int) (n : Nat) : List DV := (List.range n).map fun (i : Nat) => DV.int (lo + i)
/-- lo, lo + c, .. -/
def rgC (lo c : Int) (n : Nat) : List DV := (List.range n).map fun (i : Nat) => DV.int (lo + (i : Nat) * c)
def small62 (i : Int) : Bool := decide (-(2 ^ 62) ≤ i) && decide (i < 2 ^ 62)
def iRange1 (er : Evs) : Ei := fun ρ S => (er ρ S).bind fun ds S1 => match ds with
  | [.int j] => if small62 j = true then .ok (rgL 0 j.toNat) S1 else .bad
  | _ => .bad
def iRange2 (er : Evs) : Ei := fun ρ S => (er ρ S).bind fun ds S1 => match ds with
  | [.int i, .int j] => if (small62 i && small62 j) = true then .ok (rgL i (j - i).toNat) S1 else .bad
  | _ => .bad
theorem PI.or {X : Cx} {tg e : Expr} {t t' : TI} (h : PI X tg e t) (h' : PI X tg e t') : PI X tg e (fun σ H R => t σ H R ∨ t' σ H R) := ⟨fun pins s σ H R I hw => hw.elim (h.run pins s σ H R I) (h'.run pins s σ H R I)⟩
section
variable {X : Cx} {c : DC} {W : WX} {a b e tg : Expr} {es : List Expr} {ea eb ei : Ev} {er : Evs} {pos p pos' apos : Pos} {x : Str}
theorem wk_list {K : PySem.W.Frag} {F : Hp} {φ : Phi} {a : Addr} {xs : List V} {ds : List DV} (hs : ∀ H, FExt F H → SqL K H a xs) (hd : IsDs K F φ xs ds) : Wk K F φ (Itl K a) ds := fun i H fe => by
  have hq := hs H fe
  refine ⟨fun hi => ?_, fun hi => ⟨xs, hq, by rw [hd.length]; exact hi⟩, fun x H' ⟨e, hy⟩ d h => ?_⟩
  · obtain ⟨v, h1, h2⟩ := hd.get (List.getElem?_eq_getElem hi)
    exact ⟨xs, v, hq, h1⟩
  · obtain ⟨v, h1, h2⟩ := hd.get h
    have := hy xs hq
    rw [h1] at this
    cases this
    exact .inl ⟨e, h2⟩
theorem wk_tup {K : PySem.W.Frag} {F : Hp} {φ : Phi} {a : Addr} {xs : List V} {ds : List DV} (hs : ∀ H, FExt F H → SqT K H a xs) (hd : IsDs K F φ xs ds) : Wk K F φ (Itt K a) ds := fun i H fe => by
  have hq := hs H fe
  refine ⟨fun hi => ?_, fun hi => ⟨xs, hq, by rw [hd.length]; exact hi⟩, fun x H' ⟨e, hy⟩ d h => ?_⟩
  · obtain ⟨v, h1, h2⟩ := hd.get (List.getElem?_eq_getElem hi)
    exact ⟨xs, v, hq, h1⟩
  · obtain ⟨v, h1, h2⟩ := hd.get h
    have := hy xs hq
    rw [h1] at this
    cases this
    exact .inl ⟨e, h2⟩
theorem wk_rg {K : PySem.W.Frag} {F : Hp} {φ : Phi} (lo : Int) (n : Nat) : Wk K F φ (Itr lo n) (rgL lo n) := fun i H fe => by
  have hl : (rgL lo n).length = n := by unfold rgL; rw [List.length_map, List.length_range]
  refine ⟨fun hi => by rw [hl] at hi; exact hi, fun hi => by rw [hl] at hi; exact hi, fun x H' ⟨e, hy⟩ d h => ?_⟩
  have hi : i < n := by rw [← hl]; exact (List.getElem?_eq_some_iff.mp h).1
  unfold rgL at h
  rw [List.getElem?_map, List.getElem?_range hi] at h
  have h : DV.int (lo + (i : Nat)) = d := Option.some.inj h
  subst h hy
  exact .inl ⟨e, .int _⟩
theorem wk_rgC {K : PySem.W.Frag} {F : Hp} {φ : Phi} (lo k : Int) (n : Nat) : Wk K F φ (Itc lo k n) (rgC lo k n) := fun i H fe => by
  have hl : (rgC lo k n).length = n := by unfold rgC; rw [List.length_map, List.length_range]
  refine ⟨fun hi => by rw [hl] at hi; exact hi, fun hi => by rw [hl] at hi; exact hi, fun x H' ⟨e, hy⟩ d h => ?_⟩
  have hi : i < n := by rw [← hl]; exact (List.getElem?_eq_some_iff.mp h).1
  unfold rgC at h
  rw [List.getElem?_map, List.getElem?_range hi] at h
  have h : DV.int (lo + (i : Nat) * k) = d := Option.some.inj h
  subst h hy
  exact .inl ⟨e, .int _⟩
theorem pid_of (he : PE X e (tD X.K c W ea)) : PI X tg e (tI X.K c W (iOf ea)) := PI.imp (PI.or (pi_list he) (pi_tup he)) fun σ H R ⟨B, F, φ, ρ, S, RE, q⟩ => by
  have q' := Run.bind q
  cases h : ea ρ S with
  | exc y fs S1 =>
    rw [h] at q'
    refine .inl ⟨B, F, φ, ρ, S, RE, ?_⟩
    rw [h]
    exact q'
  | bad => rw [h] at q'; exact q'.elim
  | ok d S1 =>
    rw [h] at q'
    cases d with
    | tup l =>
      refine .inr ⟨B, F, φ, ρ, S, RE, ?_⟩
      rw [h]
      intro F1 H1 φ1 e1 p1 R1 v hv
      cases hv with
      | @tup a xs ds h1 h2 =>
        exact ⟨a, rfl, ⟨xs, sqT_of R1.core.fh h1⟩, q' F1 H1 φ1 e1 p1 R1 F1 H1 φ1 (FExt.refl _) (PExt.refl _) R1 _ (wk_tup (fun H fe => sqT_mono fe h1) h2)⟩
    | lst l =>
      refine .inl ⟨B, F, φ, ρ, S, RE, ?_⟩
      rw [h]
      intro F1 H1 φ1 e1 p1 R1 v hv
      cases hv with
      | @lst a xs ds h1 h2 =>
        exact ⟨a, rfl, ⟨xs, SqL.of (R1.core.fh _ _ h1)⟩, q' F1 H1 φ1 e1 p1 R1 F1 H1 φ1 (FExt.refl _) (PExt.refl _) R1 _ (wk_list (fun H fe => SqL.of (fe _ _ h1)) h2)⟩
    | scr l =>
      refine .inl ⟨B, F, φ, ρ, S, RE, ?_⟩
      rw [h]
      intro F1 H1 φ1 e1 p1 R1 v hv
      cases hv with
      | @scr a ns h1 =>
        exact ⟨a, rfl, ⟨_, h1.seq R1.core.fh⟩, q' F1 H1 φ1 e1 p1 R1 F1 H1 φ1 (FExt.refl _) (PExt.refl _) R1 _ (wk_list (fun H fe => h1.seq fe) (IsDs.of_ints l))⟩
    | _ =>
      refine .inl ⟨B, F, φ, ρ, S, RE, ?_⟩
      rw [h]
      exact fun F1 H1 φ1 e1 p1 R1 v hv => (q' F1 H1 φ1 e1 p1 R1).elim
theorem small62_of {i : Int} (h : small62 i = true) : -(2 ^ 62) ≤ i ∧ i < 2 ^ 62 := ⟨of_decide_eq_true (and_l h), of_decide_eq_true (and_r h)⟩
theorem pid_range1 (hg : Gl X "range") (hm : X.mg "range" = none) (ha : PA X [a] (tDs X.K c W er)) (hs : starEach [a] X.env = [(false, eval a X.env)] := by rfl) : PI X tg (.Call (.Name "range" p) [a] [] pos) (tI X.K c W (iRange1 er)) :=
  PI.imp (pi_range1 hg hm ha hs) fun σ H R ⟨B, F, φ, ρ, S, RE, q⟩ => ⟨B, F, φ, ρ, S, RE, (Run.bind q).mono fun ds S1 F1 H1 φ1 hr he hp R1 q1 vs hv => by
    split at q1
    · rename_i j
      split at q1
      · rename_i hj
        cases hv with
        | cons h r =>
          cases r
          cases h
          have z := small62_of hj
          exact ⟨j, rfl, z.1, z.2, q1 F1 H1 φ1 (FExt.refl _) (PExt.refl _) R1 _ (wk_rg 0 j.toNat)⟩
      · exact q1.elim
    · exact q1.elim⟩
theorem pid_range2 (hg : Gl X "range") (hm : X.mg "range" = none) (ha : PA X [a, b] (tDs X.K c W er)) (hs : starEach [a, b] X.env = [(false, eval a X.env), (false, eval b X.env)] := by rfl) (hs2 : starEach [b] X.env = [(false, eval b X.env)] := by rfl) : PI X tg (.Call (.Name "range" p) [a, b] [] pos) (tI X.K c W (iRange2 er)) :=
  PI.imp (pi_range2 hg hm ha hs hs2) fun σ H R ⟨B, F, φ, ρ, S, RE, q⟩ => ⟨B, F, φ, ρ, S, RE, (Run.bind q).mono fun ds S1 F1 H1 φ1 hr he hp R1 q1 vs hv => by
    split at q1
    · rename_i i j
      split at q1
      · rename_i hj
        cases hv with
        | cons h r =>
          cases r with
          | cons h' r =>
            cases r
            cases h
            cases h'
            have z := small62_of (and_l hj)
            have z' := small62_of (and_r hj)
            exact ⟨i, j, rfl, ⟨z.1, z.2, z'.1, z'.2⟩, q1 F1 H1 φ1 (FExt.refl _) (PExt.refl _) R1 _ (wk_rg i (j - i).toNat)⟩
      · exact q1.elim
    · exact q1.elim⟩
end

/-! ### for -/
def sForL (g : Ag) (b : Sv) : List DV → Sv
  | [], ρ, S => .nx ρ S
  | d :: r, ρ, S => match g d ρ with
    | none => .bad
    | some ρ1 => match b ρ1 S with
      | .nx ρ' S' => sForL g b r ρ' S'
      | .ct ρ' S' => sForL g b r ρ' S'
      | .bk ρ' S' => .nx ρ' S'
      | q => q
def sFor (g : Ag) (it : Ei) (b : Sv) : Sv := fun ρ S => (it ρ S).st ρ fun ds S1 => sForL g b ds ρ S1
section
variable {X : Cx} {c : DC} {W : WX} {e tg : Expr} {pos : Pos} {it : Ei} {g : Ag} {sb : Sv} {body : List Stmt}
theorem psd_for {u : List Nat} (hp : PassesOwn (model X.prog X.w) X.A X.env X.xe) (hc : X.calm = true) (hi : PI X tg e (tI X.K c W it)) (hg : PG X tg (tG X.K c u g)) (hb : PSs X body (tS X.K c W sb))
    (hs : ∀ x, foldedSetIterable e X.env x = pure x := by intro _; rfl) : PS X (.For tg e body [] pos) (tS X.K c W (sFor g it sb)) :=
  PS.imp (ps_for hp hc hi hg hb hs) fun σ H D ⟨B, F, φ, ρ, S, R, q⟩ =>
    ⟨_, F, φ, ρ, S, R.enter, (RunS.st R q).mono fun ds S1 F1 H1 φ1 _ _ _ _ ⟨R1, C, q1⟩ J wk => by
      refine ⟨fun i m σ H => m = ds.length - i ∧ i ≤ ds.length ∧ ∃ F φ ρ S, FExt F1 F ∧ PExt φ1 φ ∧ RelS X.K c B F H φ σ ρ S ∧ RunS X.K c W B F φ (sForL g sb (ds.drop i) ρ S) D,
        ⟨ds.length, by simp, Nat.zero_le _, F1, φ1, ρ, S1, FExt.refl _, PExt.refl _, R1, q1⟩, ?_⟩
      rintro i m σ H ⟨rfl, hi, F, φ, ρ, S, fe, pe, R, q⟩
      obtain ⟨w1, w2, w3⟩ := wk i H (fe.trans R.core.fh)
      by_cases hlt : i < ds.length
      · refine .inr ⟨w1 hlt, fun σ H => i + 1 ≤ ds.length ∧ ∃ F φ ρ S, FExt F1 F ∧ PExt φ1 φ ∧ RelS X.K c B F H φ σ ρ S ∧ RunS X.K c W B F φ (sForL g sb (ds.drop (i + 1)) ρ S) D, fun σ' H' ⟨h1, h⟩ => ⟨ds.length - (i + 1), by omega, rfl, h1, h⟩, fun x H' hy => ?_⟩
        have hd : ds.drop i = ds[i] :: ds.drop (i + 1) := List.drop_eq_getElem_cons hlt
        rw [hd] at q
        dsimp only [sForL] at q
        have item : ∃ F', FExt F F' ∧ RelS X.K c B F' H' φ σ ρ S ∧ IsD X.K F' φ x ds[i] := by
          rcases w3 x H' hy ds[i] (List.getElem?_eq_getElem hlt) with ⟨rfl, h⟩ | ⟨T, xs, es, nT, rfl, rfl, he, h⟩
          · exact ⟨F, FExt.refl _, R, h.mono fe pe⟩
          · have fe2 := fext_new R.core (.tup xs) nT
            refine ⟨_, fe2, R.after (R.core.start.new (.tup xs) nT nt_tup), ?_⟩
            rw [he]
            exact .tup (SqT.of upd_same) (h.mono (fe.trans fe2) pe)
        obtain ⟨F', fe2, R', hx⟩ := item
        cases hg' : g ds[i] ρ with
        | none => rw [hg'] at q; exact q.elim
        | some ρ1 =>
          rw [hg'] at q
          dsimp only at q
          refine ⟨B, F', φ, ρ, S, ds[i], ρ1, R', hx, hg', fun σ2 R2 _ => ⟨B, F', φ, ρ1, S, R2, ?_⟩⟩
          have q := q.unext fe2
          cases hb' : sb ρ1 S with
          | nx ρ' S' => rw [hb'] at q; exact fun σ' F2 H2 φ2 e2 p2 R3 => ⟨hlt, F2, φ2, ρ', S', (fe.trans fe2).trans e2, pe.trans p2, R3, q.ext e2 p2⟩
          | ct ρ' S' => rw [hb'] at q; exact fun σ' F2 H2 φ2 e2 p2 R3 => ⟨hlt, F2, φ2, ρ', S', (fe.trans fe2).trans e2, pe.trans p2, R3, q.ext e2 p2⟩
          | bk ρ' S' => rw [hb'] at q; exact q
          | rt d S' => rw [hb'] at q; exact q
          | exc y fs ρ' S' => rw [hb'] at q; exact q
          | bad => rw [hb'] at q; exact q
      · have hz : ds.drop i = [] := List.drop_of_length_le (by omega)
        rw [hz] at q
        exact .inl ⟨w2 (by omega), q σ F H φ (FExt.refl _) (PExt.refl _) R⟩⟩
end
end DL

namespace DL
open PySem PySem.Spec L2
open PyProof.Rows hiding St

/-! ### list comprehensions -/
def DR.nox {α : Type} (r : DR α) : DR α := match r with
  | .exc _ _ _ => .bad
  | r => r
def wipeS (ρ : List SL) : List Nat → List SL
  | [] => ρ
  | v :: vs => (wipeS ρ vs).set v .emp
def SL.noOwn (s : SL) : SL := if s.own = true then .emp else s
/-- the slots that a comprehension's block sees -/
def blkS (ρ : List SL) (vs : List Nat) : List SL := (wipeS ρ vs).map SL.noOwn
def tYes' : Et := fun _ S => .ok true S
def cLoop (g : Ag) (tt : Et) (ee : Ev) : List DV → List SL → List DO → DR (List DV)
  | [], _, S => .ok [] S
  | d :: r, ρ, S => match g d ρ with
    | none => .bad
    | some ρ1 => (tt ρ1 S).nox.bind fun k S1 => if k = true then (ee ρ1 S1).nox.bind fun x S2 => (cLoop g tt ee r ρ S2).bind fun xs S3 => .ok (x :: xs) S3 else cLoop g tt ee r ρ S1
def eComp (it : Ei) (g : Ag) (tt : Et) (ee : Ev) (vs : List Nat) : Ev := fun ρ S => (it ρ S).bind fun ds S1 => if ds.length < 16777216 then (cLoop g tt ee ds (blkS ρ vs) S1).bind fun xs S2 => .ok (.lst xs) S2 else .bad
abbrev W0 : WX := fun _ _ _ _ => False
theorem wipe_eq {vs ws : List Nat} {σ σ' : St} (h : Off ws σ σ') (k : ∀ i ∈ ws, i ∈ vs) : wipe σ' vs = wipe σ vs := by
  have hl : ∀ (σ : St) (vs : List Nat) (i : Nat), i ∈ vs → (wipe σ vs)[i]? = if i < σ.length then some none else none := fun σ vs => by
    induction vs with
    | nil => intro i h; cases h
    | cons v r ih =>
      intro i hi
      unfold wipe
      by_cases hv : v = i
      · subst hv
        by_cases hlt : v < σ.length
        · rw [List.getElem?_set_self (by rw [wipe_length]; exact hlt), if_pos hlt]
        · rw [List.getElem?_eq_none (by rw [List.length_set, wipe_length]; omega), if_neg hlt]
      · rw [List.getElem?_set_ne hv]
        exact ih i ((List.mem_cons.mp hi).resolve_left fun e => hv e.symm)
  refine List.ext_getElem? fun i => ?_
  by_cases hi : i ∈ vs
  · rw [hl σ' vs i hi, hl σ vs i hi, h.1]
  · rw [wipe_out hi, wipe_out hi, h.2 i fun z => hi (k i z)]
section
variable {K : PySem.W.Frag} {c : DC} {W : WX} {B : Bs} {F H F' H' : Hp} {φ φ' : Phi} {σ σ2 : St} {ρ ρ2 : List SL} {S S' : List DO}
theorem RelE.clear (R : RelE K c B F H φ σ ρ S) (i : Nat) : RelE K c B F H φ (σ.set i none) (ρ.set i .emp) S := by
  refine ⟨R.core, by rw [List.length_set, List.length_set]; exact R.len, fun j s hs => ?_⟩
  by_cases hj : i = j
  · subst hj
    by_cases hi : i < ρ.length
    · rw [List.getElem?_set_self hi] at hs
      cases hs
      trivial
    · rw [List.getElem?_eq_none (by rw [List.length_set]; omega)] at hs; cases hs
  · rw [List.getElem?_set_ne hj] at hs
    rw [List.getElem?_set_ne hj]
    exact R.sl j s hs
theorem RelE.wiped (R : RelE K c B F H φ σ ρ S) : ∀ vs : List Nat, RelE K c B F H φ (wipe σ vs) (wipeS ρ vs) S
  | [] => R
  | v :: vs => (RelE.wiped R vs).clear v
theorem RelE.block (R : RelE K c B F H φ σ ρ S) (vs : List Nat) : RelS K c ⟨H, F, φ⟩ F H φ (wipe σ vs) (blkS ρ vs) S := by
  have R1 := R.wiped vs
  refine ⟨R1.core.start, by unfold blkS; rw [List.length_map]; exact R1.len, fun i s hs => ?_, fun i j s t a h1 h2 o1 => ?_⟩
  · unfold blkS at hs
    rw [List.getElem?_map] at hs
    cases q : (wipeS ρ vs)[i]? with
    | none => rw [q] at hs; cases hs
    | some s' =>
      rw [q] at hs
      have hs : s'.noOwn = s := Option.some.inj hs
      subst hs
      have z := R1.sl i s' q
      cases s' with
      | emp => trivial
      | val d => exact z
      | ol l => trivial
      | ok l => trivial
      | ot l => trivial
  · unfold blkS at h1
    rw [List.getElem?_map] at h1
    cases q : (wipeS ρ vs)[i]? with
    | none => rw [q] at h1; cases h1
    | some s' =>
      rw [q] at h1
      have hs : s'.noOwn = s := Option.some.inj h1
      subst hs
      cases s' <;> cases o1
/-- a new list that is not frozen yet -/
def AccOk (K : PySem.W.Frag) (B : Bs) (F H : Hp) (φ : Phi) (σ : St) (ρ : List SL) (D : Addr) (acc : List DV) : Prop :=
  ∃ xs, H D = some (.lst xs) ∧ IsDs K F φ xs acc ∧ F D = none ∧ D ∉ φ.flatten ∧ B.H0 D = none ∧ ¬ OwnS σ ρ D
theorem AccOk.after {D : Addr} {acc : List DV} (A : AccOk K B F H φ σ ρ D acc) (E : Core K c ⟨H, F, φ⟩ F' H' φ' S') : AccOk K B F' H' φ' σ ρ D acc := by
  obtain ⟨xs, h1, h2, h3, h4, h5, h6⟩ := A
  refine ⟨xs, E.kp D _ h1 h4 nt_lst, h2.mono E.f0 E.pext, ?_, fun hp => ?_, h5, h6⟩
  · cases q : F' D with
    | none => rfl
    | some w =>
      rcases E.fn D w q with z | z
      · rw [show F D = some w from z] at h3; cases h3
      · rw [show H D = none from z] at h1; cases h1
  · obtain ⟨ψ, e, hψ⟩ := E.ph
    rw [e, List.flatten_append, List.mem_append] at hp
    rcases hp with hp | hp
    · exact h4 hp
    · rw [show H D = none from hψ D hp] at h1; cases h1
/-- .. it grows -/
theorem RelE.poke (R : RelE K c B F H φ σ ρ S) {D : Addr} {acc acc' : List DV} (A : AccOk K B F H φ σ ρ D acc) {ys : List V} (hy : IsDs K F φ ys acc') : RelE K c B F (upd H D (.lst ys)) φ σ ρ S ∧ AccOk K B F (upd H D (.lst ys)) φ σ ρ D acc' := by
  obtain ⟨xs, h1, h2, h3, h4, h5, h6⟩ := A
  have C := R.core
  refine ⟨⟨⟨C.f0, fun b o h => ?_, C.fn, fun b o h hp ht => ?_, fun b h => ?_, C.ph, C.nd, C.pf, C.ln, fun j p o g1 g2 => (C.ob j p o g1 g2).stay fun b hb o h => ?_, fun p hp => ?_, C.ft⟩, R.len, fun i s hs => ?_⟩, ys, upd_same, hy, h3, h4, h5, h6⟩
  · rw [upd_ne fun z => by rw [z, h3] at h; cases h]
    exact C.fh b o h
  · rw [upd_ne fun z => by rw [z, h5] at h; cases h]
    exact C.kp b o h hp ht
  · by_cases z : b = D
    · subst z; rw [upd_same]; simp
    · rw [upd_ne z]; exact C.ex b h
  · rw [upd_ne fun z => h4 (by rw [← z]; exact List.mem_flatten.mpr ⟨p, List.mem_of_getElem? g1, hb⟩)]
    exact h
  · obtain ⟨ps, t1, t2, t3⟩ := C.tb p hp
    refine ⟨ps, by rw [upd_ne fun z => by rw [z, h1] at t1; cases t1]; exact t1, t2, fun pos cv hc => ?_⟩
    obtain ⟨x, e1, e2⟩ := t3 pos cv hc
    refine ⟨x, e1, ?_⟩
    rw [upd_ne fun z => by
      rw [z, h1] at e2
      have e2 := Option.some.inj e2
      unfold LamX.CodeO at e2
      cases e2]
    exact e2
  · have q := R.sl i s hs
    by_cases ho : s.own = true
    · obtain ⟨a, u, e, g1, g2, g4, g5⟩ := q.at ho
      refine .mk ho ⟨a, u, e, g1, g2, ?_, g5⟩
      rw [upd_ne fun z => h6 ⟨i, s, hs, ho, by rw [← z]; exact e⟩]
      exact g4
    · cases s with
      | val d => exact q
      | emp => trivial
      | _ => exact absurd rfl ho
/-- .. and is frozen -/
theorem RelE.fix (R : RelE K c B F H φ σ ρ S) {D : Addr} {acc : List DV} (A : AccOk K B F H φ σ ρ D acc) : ∃ F', FExt F F' ∧ RelE K c B F' H φ σ ρ S ∧ IsD K F' φ (.ref D) (.lst acc) := by
  obtain ⟨xs, h1, h2, h3, h4, h5, h6⟩ := A
  have C := R.core
  have fe : FExt F (upd F D (.lst xs)) := fun b o h => by rw [upd_ne fun z => by rw [z, h3] at h; cases h]; exact h
  refine ⟨_, fe, ⟨⟨C.f0.trans fe, fun b o h => ?_, fun b o h => ?_, C.kp, C.ex, C.ph, C.nd, fun b hb => ?_, C.ln, fun j q o g1 g2 => (C.ob j q o g1 g2).mono fe (PExt.refl _), C.tb, fun b ps h => ?_⟩, R.len, fun i s hs => ?_⟩, .lst upd_same (h2.mono fe (PExt.refl _))⟩
  · by_cases z : b = D
    · subst z; rw [upd_same] at h; cases h; exact h1
    · rw [upd_ne z] at h; exact C.fh b o h
  · by_cases z : b = D
    · subst z; exact .inr h5
    · rw [upd_ne z] at h; exact C.fn b o h
  · rw [upd_ne fun z => h4 (by rw [← z]; exact hb)]; exact C.pf b hb
  · by_cases z : b = D
    · subst z; rw [upd_same] at h; exact nt_lst ps (Option.some.inj h)
    · rw [upd_ne z] at h; exact C.ft b ps h
  · have q := R.sl i s hs
    by_cases ho : s.own = true
    · obtain ⟨a, u, e, g1, g2, g4, g5⟩ := q.at ho
      refine .mk ho ⟨a, u, e, ?_, g2, g4, g5.mono fe (PExt.refl _)⟩
      rw [upd_ne fun z => h6 ⟨i, s, hs, ho, by rw [← z]; exact e⟩]
      exact g1
    · cases s with
      | val d =>
        obtain ⟨v, e, g⟩ := q
        exact ⟨v, e, g.mono fe (PExt.refl _)⟩
      | emp => trivial
      | _ => exact absurd rfl ho
/-- a piece of the block's run -/
theorem Run.inner {α β : Type} {r : DR α} {f : α → List DO → DR β} {k : β → List DO → Hp → Hp → Phi → Prop} {D : Addr} {acc : List DV} (R : RelE K c B F H φ σ ρ S) (A : AccOk K B F H φ σ ρ D acc)
    (h : Run K c W B F φ σ ρ (r.nox.bind f) k) : Run K c W0 ⟨H, F, φ⟩ F φ σ2 ρ2 r fun a S' F' H' φ' => RelE K c ⟨H, F, φ⟩ F' H' φ' σ2 ρ2 S' ∧ RelE K c B F' H' φ' σ ρ S' ∧ AccOk K B F' H' φ' σ ρ D acc ∧ FExt F F' ∧ PExt φ φ' ∧ Run K c W B F' φ' σ ρ (f a S') k := by
  cases r with
  | ok a S' => exact fun F' H' φ' e p R' => ⟨R', R.after R'.core, A.after R'.core, e, p, (show Run K c W B F φ σ ρ (f a S') k from h).ext e p⟩
  | exc x fs S' => exact h.elim
  | bad => exact h
theorem RelS.toE (R : RelS K c B F H φ σ ρ S) : RelE K c B F H φ σ ρ S := ⟨R.core, R.len, R.enter.sl⟩
end
section
variable {X : Cx} {c : DC} {W : WX} {e tg elt iter : Expr} {pos p pos' : Pos} {it : Ei} {g : Ag} {tt : Et} {ee : Ev} {ifs : List Expr} {scope : Scope} {own : List (Str × Nat)} {ws : List Nat} {K : PySem.W.Frag}
theorem lc_read {σ : St} {H : Hp} {Q : VK} {vs : List Nat} (hw : ∀ i ∈ ws, i ∈ vs) (h : tDn K c W (eComp it g tt ee vs) σ H Q) : tLc (tI K c W it) (tG K c ws g) (tDt K c W0 tt) (tD K c W0 ee) vs σ H Q := by
  obtain ⟨B, F, φ, ρ, S, R, q⟩ := h
  refine ⟨B, F, φ, ρ, S, R, (Run.bind q).mono fun ds S1 F1 H1 φ1 hr he hp R1 q1 J wk D nD => ?_⟩
  split at q1
  case isFalse => exact q1.elim
  rename_i hlen
  have hl : ds.length < sizeLine := by rw [sizeLine_eq]; exact hlen
  -- the new list
  have C0 := R1.core.none0 nD
  have A0 : AccOk K B F1 (upd H1 D (.lst [])) φ1 σ ρ D [] := by
    refine ⟨[], upd_same, .nil, ?_, fun h => R1.core.phi_there D h nD, C0, fun ho => ?_⟩
    · cases z : F1 D with
      | none => rfl
      | some o => have := R1.core.fh D o z; rw [nD] at this; cases this
    · obtain ⟨_, _, u, _, _, _, _, _, g4, _⟩ := R1.ownAt ho
      rw [nD] at g4; cases g4
  have R0 : RelE K c B F1 (upd H1 D (.lst [])) φ1 σ ρ S1 := by
    have R2 := R1.after ((R1.core.start.new (.lst []) nD nt_lst).cut (· = D) (fun a e => by
      subst e
      cases z : F1 a with
      | none => exact z
      | some o => have := R1.core.fh a o z; rw [nD] at this; cases this) fun a e => by
        subst e
        rw [upd_same]
        exact ⟨fun xs z => (nomatch z), fun o w z => nomatch z⟩)
    have e : DL.cut (upd F1 D (.lst [])) (· = D) = F1 := by
      funext b
      by_cases z : b = D
      · subst z
        rw [cut_pos (P := fun x => x = b) rfl]
        obtain ⟨_, _, _, g3, _⟩ := A0
        exact g3.symm
      · rw [cut_neg (P := fun x => x = D) z, upd_ne z]
    rw [e] at R2
    exact R2
  refine ⟨fun i m H => m = ds.length - i ∧ i ≤ ds.length ∧ ∃ (F : Hp) (φ : Phi) (S : List DO) (acc : List DV), RelE K c B F H φ σ ρ S ∧ FExt F1 F ∧ PExt φ1 φ ∧ AccOk K B F H φ σ ρ D acc ∧ acc.length ≤ i ∧
    Run K c W B F φ σ ρ ((cLoop g tt ee (ds.drop i) (blkS ρ vs) S).bind fun xs S2 => DR.ok (DV.lst (acc ++ xs)) S2) (fun d _ F' H' φ' => ∀ v, IsD K F' φ' v d → (∃ a, v = V.ref a ∧ B.H0 a = none) → Q v H'),
    ⟨ds.length, by simp, Nat.zero_le _, F1, φ1, S1, [], R0, FExt.refl _, PExt.refl _, A0, Nat.le_refl _, q1⟩, ?_⟩
  rintro i m H ⟨rfl, hi, F, φ, S, acc, R, fe, pe, A, ha, q⟩
  obtain ⟨w1, w2, w3⟩ := wk i H (fe.trans R.core.fh)
  by_cases hlt : i < ds.length
  · refine .inr ⟨w1 hlt, fun H => i + 1 ≤ ds.length ∧ ∃ (F : Hp) (φ : Phi) (S : List DO) (acc : List DV), RelE K c B F H φ σ ρ S ∧ FExt F1 F ∧ PExt φ1 φ ∧ AccOk K B F H φ σ ρ D acc ∧ acc.length ≤ i + 1 ∧
      Run K c W B F φ σ ρ ((cLoop g tt ee (ds.drop (i + 1)) (blkS ρ vs) S).bind fun xs S2 => DR.ok (DV.lst (acc ++ xs)) S2) (fun d _ F' H' φ' => ∀ v, IsD K F' φ' v d → (∃ a, v = V.ref a ∧ B.H0 a = none) → Q v H'),
      fun H' ⟨h1, h⟩ => ⟨ds.length - (i + 1), by omega, rfl, h1, h⟩, fun x H' hy => ?_⟩
    have hd : ds.drop i = ds[i] :: ds.drop (i + 1) := List.drop_eq_getElem_cons hlt
    rw [hd] at q
    dsimp only [cLoop] at q
    have item : ∃ F', FExt F F' ∧ RelE K c B F' H' φ σ ρ S ∧ IsD K F' φ x ds[i] ∧ AccOk K B F' H' φ σ ρ D acc := by
      rcases w3 x H' hy ds[i] (List.getElem?_eq_getElem hlt) with ⟨rfl, h⟩ | ⟨T, xs, es, nT, rfl, rfl, he, h⟩
      · exact ⟨F, FExt.refl _, R, h.mono fe pe, A⟩
      · have fe2 := fext_new R.core (.tup xs) nT
        have E := R.core.start.new (.tup xs) nT nt_tup
        refine ⟨_, fe2, R.after E, ?_, A.after E⟩
        rw [he]
        exact .tup (SqT.of upd_same) (h.mono (fe.trans fe2) pe)
    obtain ⟨F', fe2, R', hx, A'⟩ := item
    have q := q.ext fe2 (PExt.refl _)
    cases hg' : g ds[i] (blkS ρ vs) with
    | none => rw [hg'] at q; exact q.elim
    | some ρ1 =>
      rw [hg'] at q
      dsimp only at q
      refine ⟨⟨H', F', φ⟩, F', φ, blkS ρ vs, S, ds[i], ρ1, R'.block vs, hx, hg', fun σ2 R2 off => ⟨?_, ?_⟩⟩
      · rw [wipe_eq off hw]
        have z : ∀ vs : List Nat, wipe (wipe σ vs) vs = wipe σ vs := fun vs => wipe_eq (ws := vs) ⟨wipe_length σ vs, fun i h => wipe_out h⟩ fun _ h => h
        exact z vs
      · -- the test
        have ass : ∀ {α β γ : Type} (r : DR α) (f : α → List DO → DR β) (h : β → List DO → DR γ), (r.bind f).bind h = r.bind fun a S => (f a S).bind h := fun r f h => by cases r <;> rfl
        rw [ass] at q
        refine ⟨⟨H', F', φ⟩, F', φ, ρ1, S, R2.toE, (Run.inner R' A' q).mono fun k S3 F3 H3 φ3 _ _ _ _ ⟨RI, RO, AO, e3, p3, q3⟩ => ?_⟩
        cases k with
        | false =>
          rw [if_neg Bool.false_ne_true]
          rw [if_neg Bool.false_ne_true] at q3
          exact ⟨hlt, F3, φ3, S3, acc, RO, (fe.trans fe2).trans e3, pe.trans p3, AO, by omega, q3⟩
        | true =>
          rw [if_pos rfl]
          rw [if_pos rfl, ass] at q3
          have RI2 : RelE K c ⟨H3, F3, φ3⟩ F3 H3 φ3 σ2 ρ1 S3 := ⟨RI.core.start, RI.len, RI.sl⟩
          refine ⟨⟨H3, F3, φ3⟩, F3, φ3, ρ1, S3, RI2, (Run.inner RO AO q3).mono fun y S4 F4 H4 φ4 _ _ _ _ ⟨_, RO4, AO4, e4, p4, q4⟩ v hv => ?_⟩
          obtain ⟨xs, g1, g2, g3⟩ := id AO4
          rw [ass] at q4
          refine ⟨xs, g1, ?_, ?_⟩
          · rw [g2.length]; omega
          · obtain ⟨RP, AP⟩ := RO4.poke AO4 (g2.append (.cons hv .nil))
            refine ⟨hlt, F4, φ4, S4, acc ++ [y], RP, ((fe.trans fe2).trans e3).trans e4, (pe.trans p3).trans p4, AP, by rw [List.length_append, List.length_singleton]; omega, ?_⟩
            have e5 : (fun (xs : List DV) S2 => DR.ok (DV.lst ((acc ++ [y]) ++ xs)) S2) = fun (xs : List DV) S3 => (DR.ok (y :: xs) S3).bind fun xs S2 => DR.ok (DV.lst (acc ++ xs)) S2 := by
              funext xs S2
              show _ = DR.ok (DV.lst (acc ++ (y :: xs))) S2
              rw [List.append_assoc]
              rfl
            rw [e5]
            exact q4
  · have hz : ds.drop i = [] := List.drop_of_length_le (by omega)
    rw [hz] at q
    refine .inl ⟨w2 (by omega), ?_⟩
    obtain ⟨F', fe2, R', hD⟩ := R.fix A
    have q : Run K c W B F φ σ ρ (DR.ok (DV.lst (acc ++ [])) S) _ := q
    rw [List.append_nil] at q
    obtain ⟨_, _, _, _, _, g5, _⟩ := A
    exact q F' H φ fe2 (PExt.refl _) R' _ hD ⟨D, rfl, g5⟩
theorem ptsd_nil : PTs X [] (tDt X.K c W0 tYes') := ⟨fun pins s σ H Q I ⟨B, F, φ, ρ, S, R, q⟩ => pts_nil.run pins s σ H Q I (q F H φ (FExt.refl _) (PExt.refl _) R)⟩
theorem pdn_lc (hc : X.calm = true) (hN : X.N.Nodup) (hi : PI X tg iter (tI X.K c W it)) (ok : BlkOk X.N X.env.scope scope own)
    (hg : ∀ (s : Shared) (H : Hp) (C : Addr) (cl : List (Str × Addr)) (fp : List Addr), PG (X.blk s H scope (compEnvC scope cl C X.env) fp) tg (tG X.K c ws g)) (ht : ∀ (s : Shared) (H : Hp) (C : Addr) (cl : List (Str × Addr)) (fp : List Addr), PTs (X.blk s H scope (compEnvC scope cl C X.env) fp) ifs (tDt X.K c W0 tt))
    (he : ∀ (s : Shared) (H : Hp) (C : Addr) (cl : List (Str × Addr)) (fp : List Addr), PE (X.blk s H scope (compEnvC scope cl C X.env) fp) elt (tD X.K c W0 ee)) (hw : ∀ i ∈ ws, i ∈ own.map (·.2)) (hs : ∀ x, foldedSetIterable iter X.env x = pure x := by intro _; rfl) :
    PE X (.ListComp elt [⟨tg, iter, ifs, 0⟩] scope pos) (tDn X.K c W (eComp it g tt ee (own.map (·.2)))) := PE.imp (pe_lc hc hN hi ok hg ht he hs) fun σ H Q h => lc_read hw h
/-- name = [..]: the list is the name's own, or frozen -/
theorem psd_setLc {i : Nat} {y : Str} {py spos : Pos} (hc : X.calm = true) (hN : X.N.Nodup) (hy : X.N[i]? = some y) (hyl : X.env.scope.names.lookup y = some .local)
    (hsw : swapsWith (.ListComp elt [⟨tg, iter, ifs, 0⟩] scope pos) (some (.Name y py)) spos.line X.env = pure true) (hi : PI X tg iter (tI X.K c W it)) (ok : BlkOk X.N X.env.scope scope own)
    (hg : ∀ (s : Shared) (H : Hp) (C : Addr) (cl : List (Str × Addr)) (fp : List Addr), PG (X.blk s H scope (compEnvC scope cl C X.env) fp) tg (tG X.K c ws g)) (ht : ∀ (s : Shared) (H : Hp) (C : Addr) (cl : List (Str × Addr)) (fp : List Addr), PTs (X.blk s H scope (compEnvC scope cl C X.env) fp) ifs (tDt X.K c W0 tt))
    (he : ∀ (s : Shared) (H : Hp) (C : Addr) (cl : List (Str × Addr)) (fp : List Addr), PE (X.blk s H scope (compEnvC scope cl C X.env) fp) elt (tD X.K c W0 ee)) (hw : ∀ i ∈ ws, i ∈ own.map (·.2)) (hs : ∀ x, foldedSetIterable iter X.env x = pure x := by intro _; rfl) :
    PS X (.Assign [.Name y py] (.ListComp elt [⟨tg, iter, ifs, 0⟩] scope pos) spos) (tS X.K c W (sSet i (eComp it g tt ee (own.map (·.2))))) :=
  PS.imp (ps_setLc hc hN hy hyl hsw hi ok hg ht he hs) fun σ H D ⟨B, F, φ, ρ, S, R, q⟩ => lc_read hw
    ⟨_, F, φ, ρ, S, R.enter, (RunS.st R q).mono fun d S1 F1 H1 φ1 _ e1 p1 R1 ⟨R2, C, q1⟩ v hv _ => q1 _ F1 H1 φ1 (FExt.refl _) (PExt.refl _) (R2.set' i hv)⟩
theorem psd_ownLc {i : Nat} {y : Str} {py spos : Pos} (hc : X.calm = true) (hN : X.N.Nodup) (hy : X.N[i]? = some y) (hyl : X.env.scope.names.lookup y = some .local)
    (hsw : swapsWith (.ListComp elt [⟨tg, iter, ifs, 0⟩] scope pos) (some (.Name y py)) spos.line X.env = pure true) (hi : PI X tg iter (tI X.K c W it)) (ok : BlkOk X.N X.env.scope scope own)
    (hg : ∀ (s : Shared) (H : Hp) (C : Addr) (cl : List (Str × Addr)) (fp : List Addr), PG (X.blk s H scope (compEnvC scope cl C X.env) fp) tg (tG X.K c ws g)) (ht : ∀ (s : Shared) (H : Hp) (C : Addr) (cl : List (Str × Addr)) (fp : List Addr), PTs (X.blk s H scope (compEnvC scope cl C X.env) fp) ifs (tDt X.K c W0 tt))
    (he : ∀ (s : Shared) (H : Hp) (C : Addr) (cl : List (Str × Addr)) (fp : List Addr), PE (X.blk s H scope (compEnvC scope cl C X.env) fp) elt (tD X.K c W0 ee)) (hw : ∀ i ∈ ws, i ∈ own.map (·.2)) (hs : ∀ x, foldedSetIterable iter X.env x = pure x := by intro _; rfl) :
    PS X (.Assign [.Name y py] (.ListComp elt [⟨tg, iter, ifs, 0⟩] scope pos) spos) (tS X.K c W (sOwn i (eComp it g tt ee (own.map (·.2))))) :=
  PS.imp (ps_setLc hc hN hy hyl hsw hi ok hg ht he hs) fun σ H D ⟨B, F, φ, ρ, S, R, q⟩ => lc_read hw
    ⟨_, F, φ, ρ, S, R.enter, (show Run X.K c W ⟨H, F, φ⟩ F φ σ ρ (eComp it g tt ee (own.map (·.2)) ρ S) _ from (by
      unfold sOwn at q
      cases h : eComp it g tt ee (own.map (·.2)) ρ S with
      | ok d S1 =>
        rw [h] at q
        exact fun F1 H1 φ1 e1 p1 R1 v hv hn => own_step R R1.core hv hn (show RunS X.K c W B F φ _ D from q)
      | exc y fs S' =>
        rw [h] at q
        exact fun cls dd F' H' φ' e p R' hx => q cls dd σ F' H' φ' e p (R.after R'.core) hx
      | bad => rw [h] at q; exact q))⟩
end
end DL

namespace DL
open PySem PySem.Spec L2
open PyProof.Rows hiding St

/-! ### plain data -/
mutual
def toPy : DV → Option PyData
  | .non => some .none
  | .bl b => some (.bool b)
  | .int i => some (.int i)
  | .str x => some (.str x)
  | .tup l => (toPys l).map PyData.tuple
  | .lst l => (toPys l).map PyData.list
  | _ => none
def toPys : List DV → Option (List PyData)
  | [] => some []
  | d :: r => (toPy d).bind fun p => (toPys r).map fun ps => p :: ps
end
mutual
theorem isD_dp {K : PySem.W.Frag} {F H : Hp} {φ : Phi} (fe : FExt F H) : ∀ {v : V} {d : DV} {p : PyData}, IsD K F φ v d → toPy d = some p → Dp K H v p
  | _, _, _, .non, e => by cases e; exact .non
  | _, _, _, .bl b, e => by cases e; exact .bl b
  | _, _, _, .int i, e => by cases e; exact .int i
  | _, _, _, .str x, e => by cases e; exact .str x
  | _, _, p, .tup (ds := ds) h r, e => by
    have e : (toPys ds).map PyData.tuple = some p := e
    cases q : toPys ds with
    | none => rw [q] at e; cases e
    | some ps => rw [q] at e; cases e; exact .tup (sqT_mono fe h) (isDs_dp fe r q)
  | _, _, p, .lst (ds := ds) h r, e => by
    have e : (toPys ds).map PyData.list = some p := e
    cases q : toPys ds with
    | none => rw [q] at e; cases e
    | some ps => rw [q] at e; cases e; exact .lst (SqL.of (fe _ _ h)) (isDs_dp fe r q)
  | _, _, _, .scr h, e => by cases e
  | _, _, _, .dk h e1 r, e => by cases e
  | _, _, _, .dt h e1 r, e => by cases e
  | _, _, _, .obj h, e => by cases e
theorem isDs_dp {K : PySem.W.Frag} {F H : Hp} {φ : Phi} (fe : FExt F H) : ∀ {v : List V} {d : List DV} {p : List PyData}, IsDs K F φ v d → toPys d = some p → DpAll K H v p
  | _, _, _, .nil, e => by cases e; exact .nil
  | _, _, ps, .cons (d := d) (ds := ds) h r, e => by
    have e : ((toPy d).bind fun p => (toPys ds).map fun ps => p :: ps) = some ps := e
    cases q : toPy d with
    | none => rw [q] at e; cases e
    | some p1 =>
      rw [q] at e
      have e : ((toPys ds).map fun ps => p1 :: ps) = some ps := e
      cases q2 : toPys ds with
      | none => rw [q2] at e; cases e
      | some p2 => rw [q2] at e; cases e; exact .cons (isD_dp fe h q) (isDs_dp fe r q2)
end
def eqG (d e : DV) : Option Bool := match toPy d, toPy e with
  | some a, some b => if (SeqAt.shaped a && SeqAt.shaped b) = true then some (PyData.eqv a b) else none
  | _, _ => none
def eqD : DV → DV → Option Bool
  | .int i, .int j => some (decide (i = j))
  | .non, .non => some true
  | .non, .int _ => some false
  | .int _, .non => some false
  | .str a, .str b => some (decide (a = b))
  | d, e => eqG d e
def gEq (d e : DV) : Option DV := (eqD d e).map DV.bl
def gNe (d e : DV) : Option DV := (eqD d e).map fun k => DV.bl (!k)

/-! ### numbers, texts, tuples, lists -/
def cMul (i j : Int) : Bool := (decide (-18446744073709551616 < i) && decide (i < 18446744073709551616)) || (decide (-18446744073709551616 < j) && decide (j < 18446744073709551616))
def cSmall (i : Int) : Bool := decide (-18446744073709551616 < i) && decide (i < 18446744073709551616)
def gAdd : DV → DV → Option DV
  | .int i, .int j => some (.int (i + j))
  | .str a, .str b => if a.length + b.length ≤ 16777216 then some (.str (a ++ b)) else none
  | .tup a, .tup b => if a.length + b.length ≤ 16777216 then some (.tup (a ++ b)) else none
  | .lst a, .lst b => if a.length + b.length ≤ 16777216 then some (.lst (a ++ b)) else none
  | _, _ => none
def gSub : DV → DV → Option DV
  | .int i, .int j => some (.int (i - j))
  | _, _ => none
def gMul : DV → DV → Option DV
  | .int i, .int j => if cMul i j = true then some (.int (i * j)) else none
  | .lst a, .int k => if (decide (-9223372036854775808 ≤ k) && decide (k < 9223372036854775808) && decide (a.length * k.toNat ≤ 16777216)) = true then some (.lst (List.replicate k.toNat a).flatten) else none
  | _, _ => none
def gDiv : DV → DV → Option DV
  | .int i, .int j => if 0 < j then (if j < 1267650600228229401496703205376 then some (.int (i / j)) else none) else if j < 0 then (if -1073741824 < j then some (.int (i.fdiv j)) else none) else none
  | _, _ => none
def gMod : DV → DV → Option DV
  | .int i, .int j => if 0 < j then some (.int (i % j)) else if j < 0 then some (.int (i.fmod j)) else none
  | _, _ => none
def gPow : DV → DV → Option DV
  | .int i, .int j => if (decide (0 ≤ j) && decide (j ≤ 1000000) && cSmall i) = true then some (.int (i ^ j.toNat)) else none
  | _, _ => none
def gShl : DV → DV → Option DV
  | .int i, .int j => if (decide (0 ≤ j) && decide (j ≤ 1000000) && cSmall i) = true then some (.int (i * 2 ^ j.toNat)) else none
  | _, _ => none
def gShr : DV → DV → Option DV
  | .int i, .int j => if 0 ≤ j then some (.int (i / 2 ^ j.toNat)) else none
  | _, _ => none
def gAnd : DV → DV → Option DV
  | .int i, .int j => some (.int (Builtin.bitAnd i j))
  | _, _ => none
def gOr : DV → DV → Option DV
  | .int i, .int j => some (.int (Builtin.bitOr i j))
  | _, _ => none
def gXor : DV → DV → Option DV
  | .int i, .int j => some (.int (Builtin.bitXor i j))
  | _, _ => none
def gLt : DV → DV → Option DV
  | .int i, .int j => some (.bl (decide (i < j)))
  | _, _ => none
def gLe : DV → DV → Option DV
  | .int i, .int j => some (.bl (decide (i ≤ j)))
  | _, _ => none
def gGt : DV → DV → Option DV
  | .int i, .int j => some (.bl (decide (j < i)))
  | _, _ => none
def gGe : DV → DV → Option DV
  | .int i, .int j => some (.bl (decide (j ≤ i)))
  | _, _ => none
def isNon : DV → Bool
  | .non => true
  | _ => false
def gIs : DV → DV → Option DV
  | d, .non => some (.bl (isNon d))
  | _, _ => none
def gIsNot : DV → DV → Option DV
  | d, .non => some (.bl (!isNon d))
  | _, _ => none
def gNeg : DV → Option DV
  | .int i => some (.int (-i))
  | _ => none
def flatD : DV → Bool
  | .non => true
  | .bl _ => true
  | .int _ => true
  | .str _ => true
  | _ => false
/-- == of flat values -/
def eqF : DV → DV → Bool
  | .non, .non => true
  | .bl a, .bl b => a == b
  | .bl a, .int b => (if a then 1 else 0) == b
  | .int a, .bl b => a == (if b then 1 else 0)
  | .int a, .int b => a == b
  | .str a, .str b => a == b
  | _, _ => false
def inF (d : DV) (l : List DV) : Bool := l.any fun e => eqF e d
def inD (d : DV) (l : List DV) : Option Bool := if (flatD d && l.all flatD) = true then some (inF d l) else match toPy d, toPys l with
  | some a, some ps => if (SeqAt.shaped a && SeqAt.shaped (.list ps)) = true then some (ps.any fun z => PyData.eqv z a) else none
  | _, _ => none
section
variable {X : Cx} {c : DC} {W : WX} {K : PySem.W.Frag}
theorem isD_int {F : Hp} {φ : Phi} {v : V} {i : Int} (h : IsD K F φ v (.int i)) : v = .int i := by cases h; rfl
theorem opd_i {C : Int → Int → Prop} {h : Int → Int → Int} {g : DV → DV → Option DV} (hg : ∀ dx dy d, g dx dy = some d → ∃ i j, dx = .int i ∧ dy = .int j ∧ C i j ∧ d = .int (h i j)) : OpD K c (rI C fun i j => .int (h i j)) g := fun B F H φ σ ε S x y dx dy d Q R hx hy e q => by
  obtain ⟨i, j, rfl, rfl, hc, rfl⟩ := hg dx dy d e
  cases hx
  cases hy
  exact ⟨i, j, rfl, rfl, hc, q _ F H (FExt.refl _) R (.int _)⟩
theorem opd_i0 {h : Int → Int → Int} {g : DV → DV → Option DV} (hg : ∀ dx dy d, g dx dy = some d → ∃ i j, dx = .int i ∧ dy = .int j ∧ d = .int (h i j)) : OpD K c (rI0 fun i j => .int (h i j)) g := fun B F H φ σ ε S x y dx dy d Q R hx hy e q => by
  obtain ⟨i, j, rfl, rfl, rfl⟩ := hg dx dy d e
  cases hx
  cases hy
  exact ⟨i, j, rfl, rfl, q _ F H (FExt.refl _) R (.int _)⟩
theorem opd_b0 {h : Int → Int → Bool} {g : DV → DV → Option DV} (hg : ∀ dx dy d, g dx dy = some d → ∃ i j, dx = .int i ∧ dy = .int j ∧ d = .bl (h i j)) : OpD K c (rI0 fun i j => .bl (h i j)) g := fun B F H φ σ ε S x y dx dy d Q R hx hy e q => by
  obtain ⟨i, j, rfl, rfl, rfl⟩ := hg dx dy d e
  cases hx
  cases hy
  exact ⟨i, j, rfl, rfl, q _ F H (FExt.refl _) R (.bl _)⟩
theorem sl16 {n : Nat} (h : n ≤ 16777216) : n ≤ sizeLine := by rw [sizeLine_eq]; exact h
theorem gadd_is {dx dy d : DV} (e : gAdd dx dy = some d) : (∃ i j, dx = .int i ∧ dy = .int j ∧ d = .int (i + j)) ∨ (∃ a b, dx = .str a ∧ dy = .str b ∧ a.length + b.length ≤ 16777216 ∧ d = .str (a ++ b)) ∨
    (∃ a b, dx = .tup a ∧ dy = .tup b ∧ a.length + b.length ≤ 16777216 ∧ d = .tup (a ++ b)) ∨ ∃ a b, dx = .lst a ∧ dy = .lst b ∧ a.length + b.length ≤ 16777216 ∧ d = .lst (a ++ b) := by
  unfold gAdd at e
  split at e
  · cases e; exact .inl ⟨_, _, rfl, rfl, rfl⟩
  · split at e
    · rename_i h; cases e; exact .inr (.inl ⟨_, _, rfl, rfl, h, rfl⟩)
    · cases e
  · split at e
    · rename_i h; cases e; exact .inr (.inr (.inl ⟨_, _, rfl, rfl, h, rfl⟩))
    · cases e
  · split at e
    · rename_i h; cases e; exact .inr (.inr (.inr ⟨_, _, rfl, rfl, h, rfl⟩))
    · cases e
  · cases e
abbrev rAddA (K : PySem.W.Frag) : R2 := fun x y H Q => (rI0 (fun i j => V.int (i + j)) x y H Q) ∨ (∃ i j, x = .str i ∧ y = .str j ∧ i.length + j.length ≤ sizeLine ∧ Q (.str (i ++ j)) H) ∨ rCatA K x y H Q ∨ rCat x y H Q
theorem op_addA : OpR X (binaryOp .Add) (rAddA X.K) := op_add.or (op_add_str.or (op_catA.or op_cat))
theorem opd_add : OpD K c (rAddA K) gAdd := fun B F H φ σ ε S x y dx dy d Q R hx hy e q => by
  rcases gadd_is e with ⟨i, j, rfl, rfl, rfl⟩ | ⟨a, b, rfl, rfl, hl, rfl⟩ | ⟨a, b, rfl, rfl, hl, rfl⟩ | ⟨a, b, rfl, rfl, hl, rfl⟩
  · cases hx
    cases hy
    exact .inl ⟨i, j, rfl, rfl, q _ F H (FExt.refl _) R (.int _)⟩
  · cases hx
    cases hy
    exact .inr (.inl ⟨a, b, rfl, rfl, sl16 hl, q _ F H (FExt.refl _) R (.str _)⟩)
  · cases hx with
    | @tup p xs _ h1 h2 =>
      cases hy with
      | @tup p2 ys _ h3 h4 =>
        refine .inr (.inr (.inl ⟨p, p2, xs, ys, rfl, rfl, sqT_of R.core.fh h1, sqT_of R.core.fh h3, by rw [h2.length, h4.length]; exact sl16 hl, fun e0 => ?_, fun n0 e0 => ?_, fun n0 n1 z np => ?_⟩))
        · subst e0
          cases h2
          exact q _ F H (FExt.refl _) R (.tup h3 h4)
        · subst e0
          cases h4
          rw [List.append_nil] at q
          exact q _ F H (FExt.refl _) R (.tup h1 h2)
        · have fe := fext_new R.core (.tup (xs ++ ys)) np
          exact q _ _ _ fe (R.new _ np nt_tup) (.tup (SqT.of upd_same) ((h2.append h4).mono fe (PExt.refl _)))
  · cases hx with
    | @lst p xs _ h1 h2 =>
      cases hy with
      | @lst p2 ys _ h3 h4 =>
        refine .inr (.inr (.inr ⟨p, p2, xs, ys, rfl, rfl, R.core.fh _ _ h1, R.core.fh _ _ h3, by rw [h2.length, h4.length]; exact sl16 hl, fun z np => ?_⟩))
        have fe := fext_new R.core (.lst (xs ++ ys)) np
        exact q _ _ _ fe (R.new _ np nt_lst) (.lst upd_same ((h2.append h4).mono fe (PExt.refl _)))
theorem opd_sub : OpD K c (rI0 fun i j => V.int (i - j)) gSub := opd_i0 fun dx dy d e => by
  unfold gSub at e
  split at e <;> cases e
  exact ⟨_, _, rfl, rfl, rfl⟩
theorem cmul_of {i j : Int} (h : cMul i j = true) : CMul i j := by
  unfold cMul at h
  simp only [Bool.or_eq_true, Bool.and_eq_true, decide_eq_true_eq] at h
  unfold CMul
  have e : (2 : Int) ^ 64 = 18446744073709551616 := by decide
  rw [e]
  exact h
theorem IsDs.rep {F : Hp} {φ : Phi} {xs : List V} {ds : List DV} (h : IsDs K F φ xs ds) : ∀ n, IsDs K F φ (List.replicate n xs).flatten (List.replicate n ds).flatten
  | 0 => .nil
  | n + 1 => by
    rw [List.replicate_succ, List.replicate_succ, List.flatten_cons, List.flatten_cons]
    exact h.append (IsDs.rep h n)
abbrev rMulA : R2 := fun x y H Q => rI CMul (fun i j => V.int (i * j)) x y H Q ∨ rRep x y H Q
theorem op_mulA : OpR X (binaryOp .Mult) rMulA := op_mul.or op_rep
theorem opd_mul : OpD K c rMulA gMul := fun B F H φ σ ε S x y dx dy d Q R hx hy e q => by
  unfold gMul at e
  split at e
  · split at e
    · rename_i h
      cases e
      cases hx
      cases hy
      exact .inl ⟨_, _, rfl, rfl, cmul_of h, q _ F H (FExt.refl _) R (.int _)⟩
    · cases e
  · split at e
    · rename_i a k h
      cases e
      cases hy
      simp only [Bool.and_eq_true, decide_eq_true_eq] at h
      cases hx with
      | @lst p xs _ h1 h2 =>
        refine .inr ⟨p, _, xs, rfl, rfl, R.core.fh _ _ h1, ?_, ?_, ?_, fun z np => ?_⟩
        · have e : (2 : Int) ^ 63 = 9223372036854775808 := by decide
          rw [e]; exact h.1.1
        · have e : (2 : Int) ^ 63 = 9223372036854775808 := by decide
          rw [e]; exact h.1.2
        · rw [h2.length]; exact sl16 h.2
        · have fe := fext_new R.core (.lst (List.replicate k.toNat xs).flatten) np
          exact q _ _ _ fe (R.new _ np nt_lst) (.lst upd_same ((IsDs.rep h2 _).mono fe (PExt.refl _)))
    · cases e
  · cases e
abbrev rDivA : R2 := fun x y H Q => rI CDivW (fun i j => V.int (i / j)) x y H Q ∨ rI CDivN (fun i j => V.int (i.fdiv j)) x y H Q
theorem op_divA : OpR X (binaryOp .FloorDiv) rDivA := op_fdivW.or op_fdivN
theorem cdivw {i j : Int} (h : 0 < j) (h2 : j < 1267650600228229401496703205376) : CDivW i j := wide_div (b := 100) h (by
  have e : (2 : Nat) ^ 100 = 1267650600228229401496703205376 := by decide
  rw [e]; omega) (by decide) (by decide)
theorem opd_div : OpD K c rDivA gDiv := fun B F H φ σ ε S x y dx dy d Q R hx hy e q => by
  unfold gDiv at e
  split at e
  · split at e
    · rename_i hp
      split at e
      · rename_i hl
        cases e
        cases hx
        cases hy
        exact .inl ⟨_, _, rfl, rfl, cdivw hp hl, q _ F H (FExt.refl _) R (.int _)⟩
      · cases e
    · split at e
      · rename_i hn
        split at e
        · rename_i hl
          cases e
          cases hx
          cases hy
          exact .inr ⟨_, _, rfl, rfl, ⟨by omega, by omega⟩, q _ F H (FExt.refl _) R (.int _)⟩
        · cases e
      · cases e
  · cases e
abbrev rModA : R2 := fun x y H Q => rI (fun _ j => 0 < j) (fun i j => V.int (i % j)) x y H Q ∨ rI (fun _ j => j ≠ 0) (fun i j => V.int (i.fmod j)) x y H Q
theorem op_modA : OpR X (binaryOp .Mod) rModA := op_mod.or op_modN
theorem opd_mod : OpD K c rModA gMod := fun B F H φ σ ε S x y dx dy d Q R hx hy e q => by
  unfold gMod at e
  split at e
  · split at e
    · rename_i hp
      cases e
      cases hx
      cases hy
      exact .inl ⟨_, _, rfl, rfl, hp, q _ F H (FExt.refl _) R (.int _)⟩
    · split at e
      · rename_i hn
        cases e
        cases hx
        cases hy
        exact .inr ⟨_, _, rfl, rfl, by omega, q _ F H (FExt.refl _) R (.int _)⟩
      · cases e
  · cases e
theorem cpow_of {i j : Int} (h : (decide (0 ≤ j) && decide (j ≤ 1000000) && cSmall i) = true) : CPow i j := by
  unfold cSmall at h
  simp only [Bool.and_eq_true, decide_eq_true_eq] at h
  refine ⟨h.1.1, h.1.2, ?_⟩
  have e : (2 : Nat) ^ 64 = 18446744073709551616 := by decide
  rw [e]; omega
theorem opd_pow : OpD K c (rI CPow fun i j => V.int (i ^ j.toNat)) gPow := opd_i fun dx dy d e => by
  unfold gPow at e
  split at e
  · split at e
    · rename_i h; cases e; exact ⟨_, _, rfl, rfl, cpow_of h, rfl⟩
    · cases e
  · cases e
theorem opd_shl : OpD K c (rI CPow fun i j => V.int (i * 2 ^ j.toNat)) gShl := opd_i fun dx dy d e => by
  unfold gShl at e
  split at e
  · split at e
    · rename_i h; cases e; exact ⟨_, _, rfl, rfl, cpow_of h, rfl⟩
    · cases e
  · cases e
theorem opd_shr : OpD K c (rI (fun _ j => 0 ≤ j) fun i j => V.int (i / 2 ^ j.toNat)) gShr := opd_i fun dx dy d e => by
  unfold gShr at e
  split at e
  · split at e
    · rename_i h; cases e; exact ⟨_, _, rfl, rfl, h, rfl⟩
    · cases e
  · cases e
theorem opd_and : OpD K c (rI0 fun i j => V.int (Builtin.bitAnd i j)) gAnd := opd_i0 fun dx dy d e => by
  unfold gAnd at e
  split at e <;> cases e
  exact ⟨_, _, rfl, rfl, rfl⟩
theorem opd_or : OpD K c (rI0 fun i j => V.int (Builtin.bitOr i j)) gOr := opd_i0 fun dx dy d e => by
  unfold gOr at e
  split at e <;> cases e
  exact ⟨_, _, rfl, rfl, rfl⟩
theorem opd_xor : OpD K c (rI0 fun i j => V.int (Builtin.bitXor i j)) gXor := opd_i0 fun dx dy d e => by
  unfold gXor at e
  split at e <;> cases e
  exact ⟨_, _, rfl, rfl, rfl⟩
theorem opd_lt : OpD K c (rI0 fun i j => V.bl (decide (i < j))) gLt := opd_b0 fun dx dy d e => by
  unfold gLt at e
  split at e <;> cases e
  exact ⟨_, _, rfl, rfl, rfl⟩
theorem opd_le : OpD K c (rI0 fun i j => V.bl (decide (i ≤ j))) gLe := opd_b0 fun dx dy d e => by
  unfold gLe at e
  split at e <;> cases e
  exact ⟨_, _, rfl, rfl, rfl⟩
theorem opd_gt : OpD K c (rI0 fun i j => V.bl (decide (j < i))) gGt := opd_b0 fun dx dy d e => by
  unfold gGt at e
  split at e <;> cases e
  exact ⟨_, _, rfl, rfl, rfl⟩
theorem opd_ge : OpD K c (rI0 fun i j => V.bl (decide (j ≤ i))) gGe := opd_b0 fun dx dy d e => by
  unfold gGe at e
  split at e <;> cases e
  exact ⟨_, _, rfl, rfl, rfl⟩
theorem isNon_of {F : Hp} {φ : Phi} {v : V} {d : DV} (h : IsD K F φ v d) : decide (v = .non) = isNon d := by
  cases h <;> simp [isNon]
theorem opd_is : OpD K c (fun x y H Q => y = .non ∧ Q (.bl (decide (x = .non))) H) gIs := fun B F H φ σ ε S x y dx dy d Q R hx hy e q => by
  unfold gIs at e
  split at e
  · cases e
    cases hy
    refine ⟨rfl, ?_⟩
    rw [isNon_of hx]
    exact q _ F H (FExt.refl _) R (.bl _)
  · cases e
theorem opd_isNot : OpD K c (fun x y H Q => y = .non ∧ Q (.bl (!decide (x = .non))) H) gIsNot := fun B F H φ σ ε S x y dx dy d Q R hx hy e q => by
  unfold gIsNot at e
  split at e
  · cases e
    cases hy
    refine ⟨rfl, ?_⟩
    rw [isNon_of hx]
    exact q _ F H (FExt.refl _) R (.bl _)
  · cases e
theorem und_neg : UnD K c (rU fun i => V.int (-i)) gNeg := fun B F H φ σ ε S x dx d Q R hx e q => by
  unfold gNeg at e
  split at e <;> cases e
  cases hx
  exact ⟨_, rfl, q _ F H (FExt.refl _) R (.int _)⟩
abbrev rEqA (K : PySem.W.Frag) : R2 := fun x y H Q => rEq x y H Q ∨ rEqD K x y H Q
abbrev rNeA (K : PySem.W.Frag) : R2 := fun x y H Q => rNe x y H Q ∨ rNeD K x y H Q
theorem op_eqA {k : Nat} (hr : Room k X.A) : OpR X (compareOp .Eq) (rEqA X.K) := op_eq.or (op_eqD hr.units)
theorem op_neA {k : Nat} (hr : Room k X.A) : OpR X (compareOp .NotEq) (rNeA X.K) := op_ne.or (op_neD hr.units)
theorem eqG_is {dx dy : DV} {k : Bool} (e : eqG dx dy = some k) : ∃ a b, toPy dx = some a ∧ toPy dy = some b ∧ SeqAt.shaped a = true ∧ SeqAt.shaped b = true ∧ k = PyData.eqv a b := by
  unfold eqG at e
  split at e
  · rename_i a b h1 h2
    split at e
    · rename_i h
      cases e
      exact ⟨a, b, h1, h2, and_l h, and_r h, rfl⟩
    · cases e
  · cases e
theorem eqD_is {dx dy : DV} {k : Bool} (e : eqD dx dy = some k) : (∀ F φ (x y : V), IsD K F φ x dx → IsD K F φ y dy → scal x y = true ∧ decide (x = y) = k) ∨ eqG dx dy = some k := by
  unfold eqD at e
  split at e
  · cases e
    refine .inl fun F φ x y hx hy => ?_
    cases hx
    cases hy
    exact ⟨rfl, by simp⟩
  · cases e
    refine .inl fun F φ x y hx hy => ?_
    cases hx
    cases hy
    exact ⟨rfl, by simp⟩
  · cases e
    refine .inl fun F φ x y hx hy => ?_
    cases hx
    cases hy
    exact ⟨rfl, by simp⟩
  · cases e
    refine .inl fun F φ x y hx hy => ?_
    cases hx
    cases hy
    exact ⟨rfl, by simp⟩
  · cases e
    refine .inl fun F φ x y hx hy => ?_
    cases hx
    cases hy
    exact ⟨rfl, by simp⟩
  · exact .inr e
theorem opd_eq : OpD K c (rEqA K) gEq := fun B F H φ σ ε S x y dx dy d Q R hx hy e q => by
  unfold gEq at e
  cases h : eqD dx dy with
  | none => rw [h] at e; cases e
  | some k =>
    rw [h] at e
    cases e
    have fin := q _ F H (FExt.refl _) R (.bl k)
    rcases eqD_is h with h | h
    · obtain ⟨h1, h2⟩ := h F φ x y hx hy
      exact .inl ⟨h1, by rw [h2]; exact fin⟩
    · obtain ⟨a, b, h1, h2, h3, h4, rfl⟩ := eqG_is h
      exact .inr ⟨a, b, isD_dp R.core.fh hx h1, isD_dp R.core.fh hy h2, h3, h4, fin⟩
theorem opd_ne : OpD K c (rNeA K) gNe := fun B F H φ σ ε S x y dx dy d Q R hx hy e q => by
  unfold gNe at e
  cases h : eqD dx dy with
  | none => rw [h] at e; cases e
  | some k =>
    rw [h] at e
    cases e
    have fin := q _ F H (FExt.refl _) R (.bl (!k))
    rcases eqD_is h with h | h
    · obtain ⟨h1, h2⟩ := h F φ x y hx hy
      exact .inl ⟨h1, by rw [h2]; exact fin⟩
    · obtain ⟨a, b, h1, h2, h3, h4, rfl⟩ := eqG_is h
      exact .inr ⟨a, b, isD_dp R.core.fh hx h1, isD_dp R.core.fh hy h2, h3, h4, fin⟩
end
end DL

namespace DL
open PySem PySem.Spec L2
open PyProof.Rows hiding St

theorem PE.or {X : Cx} {e : Expr} {t t' : TE} (h : PE X e t) (h' : PE X e t') : PE X e (fun σ H R => t σ H R ∨ t' σ H R) := ⟨fun pins s σ H R I hw => hw.elim (h.run pins s σ H R I) (h'.run pins s σ H R I)⟩
theorem PT.or {X : Cx} {e : Expr} {t t' : TT} (h : PT X e t) (h' : PT X e t') : PT X e (fun σ H R => t σ H R ∨ t' σ H R) := ⟨fun pins s σ H R I hw => hw.elim (h.run pins s σ H R I) (h'.run pins s σ H R I)⟩

/-! ### dicts by content -/
def kGet {κ : Type} [DecidableEq κ] (l : List (κ × DV)) (k : κ) : Option DV := (l.find? fun kv => decide (kv.1 = k)).map (·.2)
def kPut {κ : Type} [DecidableEq κ] (l : List (κ × DV)) (k : κ) (d : DV) : List (κ × DV) :=
  if (l.any fun kv => decide (kv.1 = k)) = true then l.map fun kv => if kv.1 = k then (kv.1, d) else kv else l ++ [(k, d)]
def keyD : DV → Option Key
  | .int i => some (Sum.inl i)
  | .str x => some (Sum.inr x)
  | _ => none
def keysD : List DV → Option (List Key)
  | [] => some []
  | d :: r => (keyD d).bind fun k => (keysD r).map fun ks => k :: ks
def dGet (d : DV) (k : DV) : Option (Option DV) := match d with
  | .dk l => (keyD k).map fun k => kGet l k
  | .dt l => match k with
    | .tup es => (keysD es).map fun k => kGet l k
    | _ => none
  | _ => none
section
variable {X : Cx} {c : DC} {W : WX} {K : PySem.W.Frag} {F H : Hp} {φ : Phi}
theorem kget_is {κ : Type} [DecidableEq κ] : ∀ (ks : List (κ × V)) (l : List (κ × DV)), ks.map (·.1) = l.map (·.1) → IsDs K F φ (ks.map (·.2)) (l.map (·.2)) → ∀ k, (kGet l k = none → valV ks k = none) ∧ ∀ d, kGet l k = some d → ∃ v, valV ks k = some v ∧ IsD K F φ v d := by
  intro ks
  induction ks with
  | nil =>
    intro l e h k
    cases l with
    | cons _ _ => cases e
    | nil => exact ⟨fun _ => rfl, fun d z => (nomatch z)⟩
  | cons p ks ih =>
    intro l e h k
    cases l with
    | nil => cases e
    | cons q l =>
      obtain ⟨k1, v1⟩ := p
      obtain ⟨k2, d2⟩ := q
      have e1 : k1 = k2 := (List.cons.inj e).1
      subst e1
      cases h with
      | cons h1 h2 =>
        obtain ⟨i1, i2⟩ := ih l (List.cons.inj e).2 h2 k
        by_cases hk : k1 = k
        · have g1 : kGet ((k1, d2) :: l) k = some d2 := by simp [kGet, hk]
          have g2 : valV ((k1, v1) :: ks) k = some v1 := valV_pos hk
          refine ⟨fun z => (by rw [g1] at z; cases z), fun d z => ?_⟩
          rw [g1] at z
          cases z
          exact ⟨v1, g2, h1⟩
        · have g1 : kGet ((k1, d2) :: l) k = kGet l k := by simp [kGet, hk]
          have g2 : valV ((k1, v1) :: ks) k = valV ks k := valV_neg hk
          rw [g1, g2]
          exact ⟨i1, i2⟩
theorem key_is {v : V} {d : DV} {k : Key} (h : IsD K F φ v d) (e : keyD d = some k) : v = kV k := by
  unfold keyD at e
  split at e
  · cases e; cases h; rfl
  · cases e; cases h; rfl
  · cases e
theorem keys_is : ∀ {vs : List V} {ds : List DV} {ks : List Key}, IsDs K F φ vs ds → keysD ds = some ks → vs = ks.map kV
  | _, _, _, .nil, e => by cases e; rfl
  | _, _, ks, .cons (d := d) (ds := ds) h r, e => by
    have e : ((keyD d).bind fun k => (keysD ds).map fun ks => k :: ks) = some ks := e
    cases q : keyD d with
    | none => rw [q] at e; cases e
    | some k1 =>
      rw [q] at e
      have e : ((keysD ds).map fun ks => k1 :: ks) = some ks := e
      cases q2 : keysD ds with
      | none => rw [q2] at e; cases e
      | some k2 => rw [q2] at e; cases e; rw [key_is h q, keys_is r q2]; rfl
theorem dget_is (fe : FExt F H) {v y : V} {d e : DV} {o : Option DV} (hv : IsD K F φ v d) (hy : IsD K F φ y e) (g : dGet d e = some o) (ht : ∀ es, e = .tup es → ∃ a xs, y = .ref a ∧ H a = some (.tup xs) ∧ IsDs K F φ xs es) :
    ∃ a ov, v = .ref a ∧ DGet H a y ov ∧ (o = none → ov = none) ∧ ∀ r, o = some r → ∃ u, ov = some u ∧ IsD K F φ u r := by
  unfold dGet at g
  split at g
  · rename_i l
    cases q : keyD e with
    | none => rw [q] at g; cases g
    | some k =>
      rw [q] at g
      cases g
      cases hv with
      | @dk a ks _ h1 h2 h3 =>
        rw [key_is hy q]
        obtain ⟨i1, i2⟩ := kget_is _ _ h2 h3 k
        exact ⟨a, _, rfl, DGet.k (fe _ _ h1), i1, i2⟩
  · rename_i l
    split at g
    · rename_i es
      cases q : keysD es with
      | none => rw [q] at g; cases g
      | some k =>
        rw [q] at g
        cases g
        obtain ⟨b, xs, rfl, hb, hxs⟩ := ht es rfl
        cases hv with
        | @dt a ks _ h1 h2 h3 =>
          rw [keys_is hxs q] at hb
          obtain ⟨i1, i2⟩ := kget_is _ _ h2 h3 k
          exact ⟨a, _, rfl, DGet.t (fe _ _ h1) hb, i1, i2⟩
    · cases g
  · cases g
end

/-! ### items, slices -/
def gIdx : DV → DV → Option DV
  | .lst l, .int k => atI l k
  | .tup l, .int k => atI l k
  | .scr l, .int k => (atI l k).map DV.int
  | .str z, .int k => if z.length ≤ 16777216 then (atI z.cps.toList k).map fun u => DV.str ⟨#[u]⟩ else none
  | _, _ => none
def cutL (l : List DV) (lo hi : Option Int) : List DV := (l.drop (HT.sIx l.length 0 lo)).take (HT.sIx l.length l.length hi - HT.sIx l.length 0 lo)
abbrev Eo := EnvD → List DO → DR (Option Int)
def oNone : Eo := fun _ S => .ok none S
def oSome (e : Ev) : Eo := fun ρ S => (e ρ S).bind fun d S1 => match d with
  | .int i => .ok (some i) S1
  | _ => .bad
def gSl (d : DV) (lo hi : Option Int) : Option DV := match d with
  | .lst l => some (.lst (cutL l lo hi))
  | .tup l => some (.tup (cutL l lo hi))
  | _ => none
def eSl (e : Ev) (lo hi : Eo) : Ev := fun ρ S => (e ρ S).bind fun d S1 => (lo ρ S1).bind fun l S2 => (hi ρ S2).bind fun u S3 => optR (gSl d l u) S3
section
variable {X : Cx} {c : DC} {W : WX} {K : PySem.W.Frag} {a b e : Expr} {es : List Expr} {ea eb : Ev} {er : Evs} {pos p pos' p2 apos : Pos} {x : Str}
theorem at_is {F : Hp} {φ : Phi} {xs : List V} {ds : List DV} {k : Int} {d : DV} (h : IsDs K F φ xs ds) (e : atI ds k = some d) : ∃ v, atI xs k = some v ∧ IsD K F φ v d := by
  unfold atI at e ⊢
  rw [h.length]
  cases q : ixN ds.length k with
  | none => rw [q] at e; cases e
  | some j =>
    rw [q] at e
    exact h.get e
theorem at_map {α β : Type} (f : α → β) (l : List α) (k : Int) : atI (l.map f) k = (atI l k).map f := by
  unfold atI
  rw [List.length_map]
  cases ixN l.length k with
  | none => rfl
  | some j => exact List.getElem?_map
theorem opd_idx : OpD K c (rIx K) gIdx := fun B F H φ σ ε S x y dx dy d Q R hx hy e q => by
  unfold gIdx at e
  split at e
  · cases hy
    cases hx with
    | @lst p xs _ h1 h2 =>
      obtain ⟨v, g1, g2⟩ := at_is h2 e
      exact .inl ⟨p, xs, _, v, rfl, rfl, SqL.of (R.core.fh _ _ h1), g1, q _ F H (FExt.refl _) R g2⟩
  · cases hy
    cases hx with
    | @tup p xs _ h1 h2 =>
      obtain ⟨v, g1, g2⟩ := at_is h2 e
      exact .inr (.inl ⟨p, xs, _, v, rfl, rfl, sqT_of R.core.fh h1, g1, q _ F H (FExt.refl _) R g2⟩)
  · rename_i l k
    cases hy
    cases hx with
    | @scr p _ h1 =>
      cases z : atI l k with
      | none => rw [z] at e; cases e
      | some i =>
        rw [z] at e
        cases e
        exact .inl ⟨p, _, _, .int i, rfl, rfl, h1.seq R.core.fh, by rw [at_map, z]; rfl, q _ F H (FExt.refl _) R (.int _)⟩
  · rename_i z k
    split at e
    · rename_i hl
      cases hy
      cases hx
      cases w : atI z.cps.toList k with
      | none => rw [w] at e; cases e
      | some u =>
        rw [w] at e
        cases e
        exact .inr (.inr ⟨z, k, u, rfl, rfl, sl16 hl, w, q _ F H (FExt.refl _) R (.str _)⟩)
    · cases e
  · cases e
theorem pd_idx (ha : PE X a (tD X.K c W ea)) (hb : PE X b (tD X.K c W eb)) (hs : PlainIx b) : PE X (.Subscript a b pos) (tD X.K c W (eBin gIdx ea eb)) :=
  PE.imp (pe_ix ix_seq ha hb hs) fun σ H Q h => run_bin (ta := ea) (tb := eb) opd_idx h
/-- d[k] of a dict, by int or text -/
def gDget (d k : DV) : Option DV := match d with
  | .dk _ => (dGet d k).bind id
  | _ => none
theorem pd_dget (hu : X.A.units + 1 < cLine) (ha : PE X a (tD X.K c W ea)) (hb : PE X b (tD X.K c W eb)) (hs : NoSl b) : PE X (.Subscript a b pos) (tD X.K c W (eBin gDget ea eb)) :=
  PE.imp (pe_dget hu ha hb hs) fun σ H Q ⟨B, F, φ, ε, S, R, q⟩ => ⟨B, F, φ, ε, S, R, (Run.bind q).mono fun d1 S1 F1 H1 φ1 hr1 e1 p1 R1 q1 x hx => ⟨B, F1, φ1, ε, S1, R1, (Run.bind q1).mono fun d2 S2 F2 H2 φ2 hr2 e2 p2 R2 q2 y hy => by
    obtain ⟨d, hd, q3⟩ := Run.opt q2
    unfold gDget at hd
    split at hd
    · rename_i l
      cases z : dGet (.dk l) d2 with
      | none => rw [z] at hd; cases hd
      | some o =>
        rw [z] at hd
        obtain ⟨a, ov, rfl, g, _, g2⟩ := dget_is R2.core.fh (hx.mono e2 p2) hy z (fun es h => by subst h; cases z)
        obtain ⟨u, rfl, hu⟩ := g2 d hd
        exact ⟨a, u, rfl, g, q3 F2 H2 φ2 (FExt.refl _) (PExt.refl _) R2 u hu⟩
    · cases hd⟩⟩
def tDo (K : PySem.W.Frag) (c : DC) (W : WX) (f : Eo) : TO := fun σ H Q => ∃ B F φ ε S, RelE K c B F H φ σ ε S ∧ Run K c W B F φ σ ε (f ε S) fun o _ _ H' _ => Q o H'
theorem PO.imp {o : Option Expr} {t t' : TO} (h : PO X o t) (m : ∀ σ H Q, t' σ H Q → t σ H Q) : PO X o t' := ⟨fun pins s σ H Q I hw => h.run pins s σ H Q I (m σ H Q hw)⟩
theorem pod_none : PO X none (tDo X.K c W oNone) := PO.imp po_none fun σ H Q ⟨B, F, φ, ε, S, R, q⟩ => q F H φ (FExt.refl _) (PExt.refl _) R
theorem pod_some (h : PE X e (tD X.K c W ea)) : PO X (some e) (tDo X.K c W (oSome ea)) := PO.imp (po_some h) fun σ H Q ⟨B, F, φ, ε, S, R, q⟩ => ⟨B, F, φ, ε, S, R, (Run.bind q).mono fun d1 S1 F1 H1 φ1 hr1 e1 p1 R1 q1 x hx => by
  split at q1
  · cases hx
    exact ⟨_, rfl, q1 F1 H1 φ1 (FExt.refl _) (PExt.refl _) R1⟩
  · exact q1.elim⟩
theorem cut_is {F : Hp} {φ : Phi} {xs : List V} {ds : List DV} (h : IsDs K F φ xs ds) (lo hi : Option Int) : IsDs K F φ (cutV xs lo hi) (cutL ds lo hi) := by
  unfold cutV cutL
  rw [h.length]
  exact (h.dropN _).take _
abbrev rSlAll (K : PySem.W.Frag) : V → Option Int → Option Int → Hp → VK → Prop := fun x lo hi H Q => rSlL K x lo hi H Q ∨ rSlA K x lo hi H Q
theorem pd_slice {o o2 : Option Expr} {lo hi : Eo} (he : PE X e (tD X.K c W ea)) (hl : PO X o (tDo X.K c W lo)) (hh : PO X o2 (tDo X.K c W hi)) : PE X (.Subscript e (.Slice o o2 none p2) pos) (tD X.K c W (eSl ea lo hi)) :=
  PE.imp (pe_slice (sl_list.or sl_tupA) he hl hh) fun σ H Q ⟨B, F, φ, ε, S, R, q⟩ => ⟨B, F, φ, ε, S, R, (Run.bind q).mono fun d1 S1 F1 H1 φ1 hr1 e1 p1 R1 q1 x hx => ⟨B, F1, φ1, ε, S1, R1, (Run.bind q1).mono fun l S2 F2 H2 φ2 hr2 e2 p2 R2 q2 => ⟨B, F2, φ2, ε, S2, R2, (Run.bind q2).mono fun u S3 F3 H3 φ3 hr3 e3 p3 R3 q3 => by
    obtain ⟨d, hd, q4⟩ := Run.opt q3
    have hx := hx.mono (e2.trans e3) (p2.trans p3)
    unfold gSl at hd
    split at hd
    · cases hd
      cases hx with
      | @lst a xs _ h1 h2 =>
        refine .inl ⟨a, xs, rfl, SqL.of (R3.core.fh _ _ h1), fun p np => ?_⟩
        have fe := fext_new R3.core (.lst (cutV xs l u)) np
        exact q4 _ _ φ3 fe (PExt.refl _) (R3.new _ np nt_lst) _ (.lst upd_same ((cut_is h2 l u).mono fe (PExt.refl _)))
    · cases hd
      cases hx with
      | @tup a xs _ h1 h2 =>
        refine .inr ⟨a, xs, rfl, sqT_of R3.core.fh h1, fun zz => ?_, fun _ p np => ?_⟩
        · obtain ⟨z1, z2⟩ := zz
          have e : ∀ ds : List DV, IsDs X.K F3 φ3 xs ds → cutL ds l u = ds := fun ds h2 => by
            unfold cutL
            rw [← h2.length, z1, z2]
            show (ds.drop 0).take (xs.length - 0) = ds
            rw [List.drop_zero, Nat.sub_zero, h2.length, List.take_length]
          rw [e _ h2] at q4
          exact q4 _ _ φ3 (FExt.refl _) (PExt.refl _) R3 _ (.tup h1 h2)
        · have fe := fext_new R3.core (.tup (cutV xs l u)) np
          exact q4 _ _ φ3 fe (PExt.refl _) (R3.new _ np nt_tup) _ (.tup (SqT.of upd_same) ((cut_is h2 l u).mono fe (PExt.refl _)))
    · cases hd⟩⟩⟩

/-! ### in -/
def gIn (d s : DV) : Option DV := match s with
  | .lst l => (inD d l).map DV.bl
  | .tup l => if (flatD d && l.all flatD) = true then some (.bl (inF d l)) else none
  | _ => none
def gNotIn (d s : DV) : Option DV := match s with
  | .lst l => (inD d l).map fun k => DV.bl (!k)
  | .tup l => if (flatD d && l.all flatD) = true then some (.bl (!inF d l)) else none
  | _ => none
theorem flat_is {F : Hp} {φ : Phi} {v : V} {d : DV} (h : IsD K F φ v d) (f : flatD d = true) : flatV v = true := by
  cases h <;> first | rfl | cases f
theorem eqF_is {F : Hp} {φ : Phi} {v w : V} {d e : DV} (h : IsD K F φ v d) (h' : IsD K F φ w e) : eqV v w = eqF d e := by
  cases h <;> cases h' <;> rfl
theorem flats_is {F : Hp} {φ : Phi} : ∀ {vs : List V} {ds : List DV}, IsDs K F φ vs ds → ds.all flatD = true → vs.all flatV = true
  | _, _, .nil, _ => rfl
  | _, _, .cons h r, f => by
    rw [List.all_cons] at f ⊢
    rw [flat_is h (and_l f), flats_is r (and_r f)]
    rfl
theorem inF_is {F : Hp} {φ : Phi} {v : V} {d : DV} (h : IsD K F φ v d) : ∀ {vs : List V} {ds : List DV}, IsDs K F φ vs ds → inV v vs = inF d ds
  | _, _, .nil => rfl
  | _, _, .cons h1 r => by
    unfold inV inF
    rw [List.any_cons, List.any_cons, eqF_is h1 h]
    exact congrArg _ (inF_is h r)
abbrev rInA (K : PySem.W.Frag) : R2 := fun x y H Q => rIn K false x y H Q ∨ rInD K x y H Q
abbrev rNotInA (K : PySem.W.Frag) : R2 := fun x y H Q => rIn K true x y H Q ∨ rNotInD K x y H Q
theorem op_inA {k : Nat} (hr : Room k X.A) : OpR X (compareOp .In) (rInA X.K) := op_in_seq.or (op_inD (by have := hr.un; omega))
theorem op_notInA {k : Nat} (hr : Room k X.A) : OpR X (compareOp .NotIn) (rNotInA X.K) := op_notIn_seq.or (op_notInD (by have := hr.un; omega))
theorem inD_is {F H : Hp} {φ : Phi} (fe : FExt F H) {v : V} {d : DV} {a : Addr} {xs : List V} {l : List DV} {k : Bool} (hv : IsD K F φ v d) (h1 : F a = some (.lst xs)) (h2 : IsDs K F φ xs l) (e : inD d l = some k) :
    (flatV v = true ∧ xs.all flatV = true ∧ inV v xs = k) ∨ ∃ p ps, Dp K H v p ∧ Dp K H (.ref a) (.list ps) ∧ SeqAt.shaped p = true ∧ SeqAt.shaped (.list ps) = true ∧ (ps.any fun z => PyData.eqv z p) = k := by
  unfold inD at e
  split at e
  · rename_i hf
    cases e
    exact .inl ⟨flat_is hv (and_l hf), flats_is h2 (and_r hf), inF_is hv h2⟩
  · split at e
    · rename_i p ps e1 e2
      split at e
      · rename_i hs
        cases e
        exact .inr ⟨p, ps, isD_dp fe hv e1, .lst (SqL.of (fe _ _ h1)) (isDs_dp fe h2 e2), and_l hs, and_r hs, rfl⟩
      · cases e
    · cases e
theorem opd_in : OpD K c (rInA K) gIn := fun B F H φ σ ε S x y dx dy d Q R hx hy e q => by
  unfold gIn at e
  split at e
  · rename_i l
    cases hy with
    | @lst a xs _ h1 h2 =>
      cases z : inD dx l with
      | none => rw [z] at e; cases e
      | some k =>
        rw [z] at e
        cases e
        have fin := q _ F H (FExt.refl _) R (.bl k)
        rcases inD_is R.core.fh hx h1 h2 z with ⟨g1, g2, rfl⟩ | ⟨p, ps, g1, g2, g3, g4, rfl⟩
        · exact .inl ⟨a, xs, rfl, .inl (SqL.of (R.core.fh _ _ h1)), g1, g2, by rw [if_neg Bool.false_ne_true]; exact fin⟩
        · exact .inr ⟨p, ps, g1, g2, g3, g4, fin⟩
  · rename_i l
    split at e
    · rename_i hf
      cases e
      cases hy with
      | @tup a xs _ h1 h2 =>
        refine .inl ⟨a, xs, rfl, .inr (sqT_of R.core.fh h1), flat_is hx (and_l hf), flats_is h2 (and_r hf), ?_⟩
        rw [if_neg Bool.false_ne_true, inF_is hx h2]
        exact q _ F H (FExt.refl _) R (.bl _)
    · cases e
  · cases e
theorem opd_notIn : OpD K c (rNotInA K) gNotIn := fun B F H φ σ ε S x y dx dy d Q R hx hy e q => by
  unfold gNotIn at e
  split at e
  · rename_i l
    cases hy with
    | @lst a xs _ h1 h2 =>
      cases z : inD dx l with
      | none => rw [z] at e; cases e
      | some k =>
        rw [z] at e
        cases e
        have fin := q _ F H (FExt.refl _) R (.bl (!k))
        rcases inD_is R.core.fh hx h1 h2 z with ⟨g1, g2, rfl⟩ | ⟨p, ps, g1, g2, g3, g4, rfl⟩
        · exact .inl ⟨a, xs, rfl, .inl (SqL.of (R.core.fh _ _ h1)), g1, g2, by rw [if_pos rfl]; exact fin⟩
        · exact .inr ⟨p, ps, g1, g2, g3, g4, fin⟩
  · rename_i l
    split at e
    · rename_i hf
      cases e
      cases hy with
      | @tup a xs _ h1 h2 =>
        refine .inl ⟨a, xs, rfl, .inr (sqT_of R.core.fh h1), flat_is hx (and_l hf), flats_is h2 (and_r hf), ?_⟩
        rw [if_pos rfl, inF_is hx h2]
        exact q _ F H (FExt.refl _) R (.bl _)
    · cases e
  · cases e
/-- k in d, k not in d, of a dict (keys ints, texts) -/
def gKin (k d : DV) : Option DV := match d with
  | .dk _ => (dGet d k).map fun o => DV.bl o.isSome
  | _ => none
def gKnot (k d : DV) : Option DV := match d with
  | .dk _ => (dGet d k).map fun o => DV.bl (!o.isSome)
  | _ => none
theorem kin_read {σ : St} {H : Hp} {Q : VK} (h : tD X.K c W (eBin gKin ea eb) σ H Q) : tDIn (tD X.K c W ea) (tD X.K c W eb) σ H Q := by
  obtain ⟨B, F, φ, ε, S, R, q⟩ := h
  refine ⟨B, F, φ, ε, S, R, (Run.bind q).mono fun d1 S1 F1 H1 φ1 hr1 e1 p1 R1 q1 y hy => ⟨B, F1, φ1, ε, S1, R1, (Run.bind q1).mono fun d2 S2 F2 H2 φ2 hr2 e2 p2 R2 q2 x hx => ?_⟩⟩
  obtain ⟨d, hd, q3⟩ := Run.opt q2
  unfold gKin at hd
  split at hd
  · rename_i l
    cases z : dGet (.dk l) d1 with
    | none => rw [z] at hd; cases hd
    | some o =>
      rw [z] at hd
      cases hd
      obtain ⟨a, ov, rfl, g, g1, g2⟩ := dget_is R2.core.fh hx (hy.mono e2 p2) z (fun es h => by subst h; cases z)
      refine ⟨a, ov, rfl, g, ?_⟩
      have eo : ov.isSome = o.isSome := by
        cases o with
        | none => rw [g1 rfl] <;> rfl
        | some r => obtain ⟨u, rfl, _⟩ := g2 r rfl; rfl
      rw [eo]
      exact q3 F2 H2 φ2 (FExt.refl _) (PExt.refl _) R2 _ (.bl _)
  · cases hd
theorem knot_read {σ : St} {H : Hp} {Q : VK} (h : tD X.K c W (eBin gKnot ea eb) σ H Q) : tDNotIn (tD X.K c W ea) (tD X.K c W eb) σ H Q := by
  obtain ⟨B, F, φ, ε, S, R, q⟩ := h
  refine ⟨B, F, φ, ε, S, R, (Run.bind q).mono fun d1 S1 F1 H1 φ1 hr1 e1 p1 R1 q1 y hy => ⟨B, F1, φ1, ε, S1, R1, (Run.bind q1).mono fun d2 S2 F2 H2 φ2 hr2 e2 p2 R2 q2 x hx => ?_⟩⟩
  obtain ⟨d, hd, q3⟩ := Run.opt q2
  unfold gKnot at hd
  split at hd
  · rename_i l
    cases z : dGet (.dk l) d1 with
    | none => rw [z] at hd; cases hd
    | some o =>
      rw [z] at hd
      cases hd
      obtain ⟨a, ov, rfl, g, g1, g2⟩ := dget_is R2.core.fh hx (hy.mono e2 p2) z (fun es h => by subst h; cases z)
      refine ⟨a, ov, rfl, g, ?_⟩
      have eo : ov.isSome = o.isSome := by
        cases o with
        | none => rw [g1 rfl] <;> rfl
        | some r => obtain ⟨u, rfl, _⟩ := g2 r rfl; rfl
      rw [eo]
      exact q3 F2 H2 φ2 (FExt.refl _) (PExt.refl _) R2 _ (.bl _)
  · cases hd
theorem pd_kin (hu : X.A.units + 1 < cLine) (ha : PE X a (tD X.K c W ea)) (hb : PE X b (tD X.K c W eb)) (hm : behindInMarks .In b = false := by rfl) : PE X (.Compare a [.In] [b] pos) (tD X.K c W (eBin gKin ea eb)) :=
  PE.imp (pe_cmp (pc_din hu ha hb) hm) fun σ H Q h => kin_read h
theorem pd_knot (hu : X.A.units + 1 < cLine) (ha : PE X a (tD X.K c W ea)) (hb : PE X b (tD X.K c W eb)) (hm : behindInMarks .NotIn b = false := by rfl) : PE X (.Compare a [.NotIn] [b] pos) (tD X.K c W (eBin gKnot ea eb)) :=
  PE.imp (pe_cmp (pc_dnotin hu ha hb) hm) fun σ H Q h => knot_read h
theorem tcmp_read {g : DV → DV → Option DV} {σ : St} {H : Hp} {Q : Bool → Hp → Prop} (h : tDt X.K c W (tCmpB g ea eb) σ H Q) : tD X.K c W (eBin g ea eb) σ H fun x H1 => ∃ k, x = V.bl k ∧ Q k H1 := by
  obtain ⟨B, F, φ, ε, S, R, q⟩ := h
  refine ⟨B, F, φ, ε, S, R, ?_⟩
  unfold tCmpB at q
  unfold eBin
  cases h1 : ea ε S with
  | exc y fs S1 => rw [h1] at q; exact q
  | bad => rw [h1] at q; exact q
  | ok x S1 =>
    rw [h1] at q
    show Run X.K c W B F φ σ ε ((eb ε S1).bind fun y S2 => optR (g x y) S2) _
    have q : Run X.K c W B F φ σ ε ((eb ε S1).bind fun y S2 => match g x y with
      | some (.bl k) => .ok k S2
      | _ => .bad) _ := q
    cases h2 : eb ε S1 with
    | exc y fs S2 => rw [h2] at q; exact q
    | bad => rw [h2] at q; exact q
    | ok y S2 =>
      rw [h2] at q
      dsimp only [DR.bind] at q ⊢
      split at q
      · rename_i k hk
        rw [hk]
        exact fun F' H' φ' e' p' R' v hv => by cases hv; exact ⟨k, rfl, q F' H' φ' e' p' R'⟩
      · exact q.elim
theorem pdt_kin (hu : X.A.units + 1 < cLine) (ha : PE X a (tD X.K c W ea)) (hb : PE X b (tD X.K c W eb)) (hm : behindInMarks .In b = false := by rfl) : PT X (.Compare a [.In] [b] pos) (tDt X.K c W (tCmpB gKin ea eb)) :=
  PT.imp (pt_cmp (pc_din hu ha hb) hm) fun σ H Q h => kin_read (tcmp_read h)
theorem pdt_knot (hu : X.A.units + 1 < cLine) (ha : PE X a (tD X.K c W ea)) (hb : PE X b (tD X.K c W eb)) (hm : behindInMarks .NotIn b = false := by rfl) : PT X (.Compare a [.NotIn] [b] pos) (tDt X.K c W (tCmpB gKnot ea eb)) :=
  PT.imp (pt_cmp (pc_dnotin hu ha hb) hm) fun σ H Q h => knot_read (tcmp_read h)
end
end DL

namespace DL
open PySem PySem.Spec L2
open PyProof.Rows hiding St

/-! ### built-in functions by name -/
def eBlt (g : List DV → Option DV) (er : Evs) : Ev := fun ρ S => (er ρ S).bind fun ds S1 => optR (g ds) S1
def CallD (K : PySem.W.Frag) (c : DC) (r : List V → Hp → VK → Prop) (g : List DV → Option DV) : Prop :=
  ∀ (B : Bs) (F H : Hp) (φ : Phi) (σ : St) (ε : EnvD) (S : List DO) (xs : List V) (ds : List DV) (d : DV) (Q : VK), RelE K c B F H φ σ ε S → IsDs K F φ xs ds → g ds = some d →
    (∀ v F' H', FExt F F' → RelE K c B F' H' φ σ ε S → IsD K F' φ v d → Q v H') → r xs H Q
def ints? : List DV → Option (List Int)
  | [] => some []
  | .int i :: r => (ints? r).map fun ns => i :: ns
  | _ :: _ => none
def bls? : List DV → Option (List Bool)
  | [] => some []
  | .bl i :: r => (bls? r).map fun ns => i :: ns
  | _ :: _ => none
theorem ints?_is : ∀ {l : List DV} {ns : List Int}, ints? l = some ns → l = ns.map DV.int
  | [], ns, e => by cases e; rfl
  | d :: r, ns, e => by
    cases d with
    | int i =>
      have e : (ints? r).map (fun ns => i :: ns) = some ns := e
      cases q : ints? r with
      | none => rw [q] at e; cases e
      | some ms => rw [q] at e; cases e; rw [ints?_is q]; rfl
    | _ => cases e
theorem bls?_is : ∀ {l : List DV} {ns : List Bool}, bls? l = some ns → l = ns.map DV.bl
  | [], ns, e => by cases e; rfl
  | d :: r, ns, e => by
    cases d with
    | bl i =>
      have e : (bls? r).map (fun ns => i :: ns) = some ns := e
      cases q : bls? r with
      | none => rw [q] at e; cases e
      | some ms => rw [q] at e; cases e; rw [bls?_is q]; rfl
    | _ => cases e
def gLen : List DV → Option DV
  | [.lst l] => some (.int l.length)
  | [.tup l] => some (.int l.length)
  | [.scr l] => some (.int l.length)
  | [.str x] => if x.length ≤ 16777216 then some (.int x.length) else none
  | [.dk l] => some (.int l.length)
  | _ => none
def gAbs : List DV → Option DV
  | [.int i] => some (.int (if i < 0 then -i else i))
  | _ => none
def gInt : List DV → Option DV
  | [.int i] => some (.int i)
  | [.bl k] => some (.int (if k then 1 else 0))
  | _ => none
def gMax : List DV → Option DV
  | [.int i, .int j] => some (.int (if j > i then j else i))
  | _ => none
def gMin : List DV → Option DV
  | [.int i, .int j] => some (.int (if j < i then j else i))
  | _ => none
def gTuple : List DV → Option DV
  | [.lst l] => some (.tup l)
  | [.tup l] => some (.tup l)
  | _ => none
def gList : List DV → Option DV
  | [.lst l] => some (.lst l)
  | [.tup l] => some (.lst l)
  | [.scr l] => some (.lst (l.map DV.int))
  | _ => none
def gSum : List DV → Option DV
  | [.lst l] => (ints? l).map fun ns => DV.int ns.sum
  | _ => none
def gAll : List DV → Option DV
  | [.lst l] => (bls? l).map fun bs => DV.bl (bs.all id)
  | _ => none
def gAny : List DV → Option DV
  | [.lst l] => (bls? l).map fun bs => DV.bl (bs.any id)
  | _ => none
section
variable {X : Cx} {c : DC} {W : WX} {K : PySem.W.Frag} {a b e : Expr} {es : List Expr} {ea eb ei : Ev} {er : Evs} {pos p pos' p2 apos : Pos} {x : Str} {id T : String}
theorem pd_callB {r : List V → Hp → VK → Prop} {g : List DV → Option DV} (hc : CallR X (.builtin id) r) (hd : CallD X.K c r g) (hg : Gl X x) (hm : X.mg x = none) (hv : bootBuiltins x = some (.builtin id)) (ha : PA X (e :: es) (tDs X.K c W er)) (hn : x ≠ "__name__" := by decide) (hdb : (x == ("__debug__" : Str)) = false := by decide)
    (he : starEach (e :: es) X.env = (false, eval e X.env) :: starEach es X.env := by rfl) (hpl : (backTo pos (starEach es X.env)).any (·.1) = false := by rfl) : PE X (.Call (.Name x p) (e :: es) [] pos) (tD X.K c W (eBlt g er)) :=
  PE.imp (pe_callB hc hg hm hv ha hn hdb he hpl) fun σ H Q ⟨B, F, φ, ε, S, R, q⟩ => ⟨B, F, φ, ε, S, R, (Run.bind q).mono fun d1 S1 F1 H1 φ1 hr e1 p1 R1 q1 xs hx => by
    obtain ⟨d, h1, q3⟩ := Run.opt q1
    exact hd B F1 H1 φ1 σ ε S1 xs d1 d Q R1 hx h1 fun v F' H' e' R' hv => q3 F' H' φ1 e' (PExt.refl _) R' v hv⟩
theorem pd_callTy {r : List V → Hp → VK → Prop} {g : List DV → Option DV} (hc : CallR X (.type T) r) (hd : CallD X.K c r g) (hg : Gl X x) (hm : X.mg x = none) (hv : bootBuiltins x = some (.type T)) (ha : PA X (e :: es) (tDs X.K c W er)) (hn : x ≠ "__name__" := by decide) (hdb : (x == ("__debug__" : Str)) = false := by decide)
    (he : starEach (e :: es) X.env = (false, eval e X.env) :: starEach es X.env := by rfl) (hpl : (backTo pos (starEach es X.env)).any (·.1) = false := by rfl) : PE X (.Call (.Name x p) (e :: es) [] pos) (tD X.K c W (eBlt g er)) :=
  PE.imp (pe_callTy hc hg hm hv ha hn hdb he hpl) fun σ H Q ⟨B, F, φ, ε, S, R, q⟩ => ⟨B, F, φ, ε, S, R, (Run.bind q).mono fun d1 S1 F1 H1 φ1 hr e1 p1 R1 q1 xs hx => by
    obtain ⟨d, h1, q3⟩ := Run.opt q1
    exact hd B F1 H1 φ1 σ ε S1 xs d1 d Q R1 hx h1 fun v F' H' e' R' hv => q3 F' H' φ1 e' (PExt.refl _) R' v hv⟩
theorem ds1 {F : Hp} {φ : Phi} {xs : List V} {d : DV} (h : IsDs K F φ xs [d]) : ∃ v, xs = [v] ∧ IsD K F φ v d := by
  cases h with
  | cons h r => cases r; exact ⟨_, rfl, h⟩
theorem ds2 {F : Hp} {φ : Phi} {xs : List V} {d e : DV} (h : IsDs K F φ xs [d, e]) : ∃ v w, xs = [v, w] ∧ IsD K F φ v d ∧ IsD K F φ w e := by
  cases h with
  | cons h r =>
    cases r with
    | cons h' r => cases r; exact ⟨_, _, rfl, h, h'⟩
abbrev rLenA (K : PySem.W.Frag) : List V → Hp → VK → Prop := fun xs H Q => (∃ x n, xs = [x] ∧ LenV K x H n ∧ Q (.int n) H) ∨ ∃ a kvs, xs = [V.ref a] ∧ H a = some (.dK kvs) ∧ Q (.int kvs.length) H
theorem call_lenA : CallR X (.builtin "len") (rLenA X.K) := call_len.or call_lenD
theorem calld_len : CallD K c (rLenA K) gLen := fun B F H φ σ ε S xs ds d Q R hx e q => by
  unfold gLen at e
  split at e
  · cases e
    obtain ⟨v, rfl, hv⟩ := ds1 hx
    cases hv with
    | @lst a ys _ h1 h2 =>
      rw [← h2.length] at q
      exact .inl ⟨_, _, rfl, .inl ⟨ys, SqL.of (R.core.fh _ _ h1), rfl⟩, q _ F H (FExt.refl _) R (.int _)⟩
  · cases e
    obtain ⟨v, rfl, hv⟩ := ds1 hx
    cases hv with
    | @tup a ys _ h1 h2 =>
      rw [← h2.length] at q
      exact .inl ⟨_, _, rfl, .inr ⟨ys, sqT_of R.core.fh h1, rfl⟩, q _ F H (FExt.refl _) R (.int _)⟩
  · rename_i l
    cases e
    obtain ⟨v, rfl, hv⟩ := ds1 hx
    cases hv with
    | @scr a _ h1 => exact .inl ⟨_, l.length, rfl, .inl ⟨_, h1.seq R.core.fh, by rw [List.length_map]⟩, q _ F H (FExt.refl _) R (.int _)⟩
  · split at e
    · rename_i h
      cases e
      obtain ⟨v, rfl, hv⟩ := ds1 hx
      cases hv
      exact .inl ⟨_, _, rfl, ⟨sl16 h, rfl⟩, q _ F H (FExt.refl _) R (.int _)⟩
    · cases e
  · cases e
    obtain ⟨v, rfl, hv⟩ := ds1 hx
    cases hv with
    | @dk a ks _ h1 h2 h3 =>
      have e := congrArg List.length h2
      rw [List.length_map, List.length_map] at e
      rw [← e] at q
      exact .inr ⟨a, ks, rfl, R.core.fh _ _ h1, q _ F H (FExt.refl _) R (.int _)⟩
  · cases e
theorem calld_abs : CallD K c (fun xs H Q => ∃ i, xs = [V.int i] ∧ Q (.int (if i < 0 then -i else i)) H) gAbs := fun B F H φ σ ε S xs ds d Q R hx e q => by
  unfold gAbs at e
  split at e <;> cases e
  obtain ⟨v, rfl, hv⟩ := ds1 hx
  cases hv
  exact ⟨_, rfl, q _ F H (FExt.refl _) R (.int _)⟩
theorem calld_int : CallD K c (fun xs H Q => (∃ i, xs = [V.int i] ∧ Q (.int i) H) ∨ ∃ k, xs = [V.bl k] ∧ Q (.int (if k then 1 else 0)) H) gInt := fun B F H φ σ ε S xs ds d Q R hx e q => by
  unfold gInt at e
  split at e <;> cases e
  · obtain ⟨v, rfl, hv⟩ := ds1 hx
    cases hv
    exact .inl ⟨_, rfl, q _ F H (FExt.refl _) R (.int _)⟩
  · obtain ⟨v, rfl, hv⟩ := ds1 hx
    cases hv
    exact .inr ⟨_, rfl, q _ F H (FExt.refl _) R (.int _)⟩
theorem calld_max : CallD K c (fun xs H Q => ∃ i j, xs = [V.int i, V.int j] ∧ Q (.int (if j > i then j else i)) H) gMax := fun B F H φ σ ε S xs ds d Q R hx e q => by
  unfold gMax at e
  split at e <;> cases e
  obtain ⟨v, w, rfl, hv, hw⟩ := ds2 hx
  cases hv
  cases hw
  exact ⟨_, _, rfl, q _ F H (FExt.refl _) R (.int _)⟩
theorem calld_min : CallD K c (fun xs H Q => ∃ i j, xs = [V.int i, V.int j] ∧ Q (.int (if j < i then j else i)) H) gMin := fun B F H φ σ ε S xs ds d Q R hx e q => by
  unfold gMin at e
  split at e <;> cases e
  obtain ⟨v, w, rfl, hv, hw⟩ := ds2 hx
  cases hv
  cases hw
  exact ⟨_, _, rfl, q _ F H (FExt.refl _) R (.int _)⟩
theorem calld_tuple : CallD K c (fun xs H Q => ∃ p ys, xs = [V.ref p] ∧ ((SqL K H p ys ∧ ∀ l, H l = none → Q (.ref l) (upd H l (.tup ys))) ∨ (SqT K H p ys ∧ Q (.ref p) H))) gTuple := fun B F H φ σ ε S xs ds d Q R hx e q => by
  unfold gTuple at e
  split at e <;> cases e
  · obtain ⟨v, rfl, hv⟩ := ds1 hx
    cases hv with
    | @lst a ys _ h1 h2 =>
      refine ⟨a, ys, rfl, .inl ⟨SqL.of (R.core.fh _ _ h1), fun l nl => ?_⟩⟩
      have fe := fext_new R.core (.tup ys) nl
      exact q _ _ _ fe (R.new _ nl nt_tup) (.tup (SqT.of upd_same) (h2.mono fe (PExt.refl _)))
  · obtain ⟨v, rfl, hv⟩ := ds1 hx
    cases hv with
    | @tup a ys _ h1 h2 => exact ⟨a, ys, rfl, .inr ⟨sqT_of R.core.fh h1, q _ F H (FExt.refl _) R (.tup h1 h2)⟩⟩
/-- list(..): a new list -/
theorem pdn_list (hg : Gl X "list") (hm : X.mg "list" = none) (ha : PA X (e :: es) (tDs X.K c W er))
    (he : starEach (e :: es) X.env = (false, eval e X.env) :: starEach es X.env := by rfl) (hpl : (backTo pos (starEach es X.env)).any (·.1) = false := by rfl) : PE X (.Call (.Name "list" p) (e :: es) [] pos) (tDn X.K c W (eBlt gList er)) :=
  PE.imp (pe_callTy call_list_of hg hm (by decide +kernel) ha (by decide) (by decide) he hpl) fun σ H Q ⟨B, F, φ, ε, S, R, q⟩ => ⟨B, F, φ, ε, S, R, (Run.bind q).mono fun d1 S1 F1 H1 φ1 hr e1 p1 R1 q1 xs hx => by
    obtain ⟨d, h1, q3⟩ := Run.opt q1
    unfold gList at h1
    split at h1 <;> cases h1
    · obtain ⟨v, rfl, hv⟩ := ds1 hx
      cases hv with
      | @lst a ys _ h1 h2 =>
        refine ⟨a, ys, rfl, .inl (SqL.of (R1.core.fh _ _ h1)), fun l nl => ?_⟩
        have fe := fext_new R1.core (.lst ys) nl
        exact q3 _ _ φ1 fe (PExt.refl _) (R1.new _ nl nt_lst) _ (.lst upd_same (h2.mono fe (PExt.refl _))) ⟨l, rfl, R1.base0 nl⟩
    · obtain ⟨v, rfl, hv⟩ := ds1 hx
      cases hv with
      | @tup a ys _ h1 h2 =>
        refine ⟨a, ys, rfl, .inr (sqT_of R1.core.fh h1), fun l nl => ?_⟩
        have fe := fext_new R1.core (.lst ys) nl
        exact q3 _ _ φ1 fe (PExt.refl _) (R1.new _ nl nt_lst) _ (.lst upd_same (h2.mono fe (PExt.refl _))) ⟨l, rfl, R1.base0 nl⟩
    · rename_i ns
      obtain ⟨v, rfl, hv⟩ := ds1 hx
      cases hv with
      | @scr a _ h1 =>
        refine ⟨a, _, rfl, .inl (h1.seq R1.core.fh), fun l nl => ?_⟩
        have fe := fext_new R1.core (.lst (ns.map V.int)) nl
        exact q3 _ _ φ1 fe (PExt.refl _) (R1.new _ nl nt_lst) _ (.lst upd_same (IsDs.of_ints ns)) ⟨l, rfl, R1.base0 nl⟩⟩
theorem calld_sum : CallD K c (rSum K) gSum := fun B F H φ σ ε S xs ds d Q R hx e q => by
  unfold gSum at e
  split at e
  · rename_i l
    cases z : ints? l with
    | none => rw [z] at e; cases e
    | some ns =>
      rw [z] at e
      cases e
      rw [ints?_is z] at hx
      obtain ⟨v, rfl, hv⟩ := ds1 hx
      cases hv with
      | @lst a ys _ h1 h2 =>
        rw [h2.ints] at h1
        exact ⟨a, ns, rfl, SqL.of (R.core.fh _ _ h1), q _ F H (FExt.refl _) R (.int _)⟩
  · cases e
theorem calld_all : CallD K c (rAll K) gAll := fun B F H φ σ ε S xs ds d Q R hx e q => by
  unfold gAll at e
  split at e
  · rename_i l
    cases z : bls? l with
    | none => rw [z] at e; cases e
    | some ns =>
      rw [z] at e
      cases e
      rw [bls?_is z] at hx
      obtain ⟨v, rfl, hv⟩ := ds1 hx
      cases hv with
      | @lst a ys _ h1 h2 =>
        rw [h2.bls] at h1
        exact ⟨a, ns, rfl, SqL.of (R.core.fh _ _ h1), q _ F H (FExt.refl _) R (.bl _)⟩
  · cases e
theorem calld_any : CallD K c (rAny K) gAny := fun B F H φ σ ε S xs ds d Q R hx e q => by
  unfold gAny at e
  split at e
  · rename_i l
    cases z : bls? l with
    | none => rw [z] at e; cases e
    | some ns =>
      rw [z] at e
      cases e
      rw [bls?_is z] at hx
      obtain ⟨v, rfl, hv⟩ := ds1 hx
      cases hv with
      | @lst a ys _ h1 h2 =>
        rw [h2.bls] at h1
        exact ⟨a, ns, rfl, SqL.of (R.core.fh _ _ h1), q _ F H (FExt.refl _) R (.bl _)⟩
  · cases e

/-! ### isinstance of a built-in class -/
def tyD : DV → String
  | .non => "NoneType"
  | .bl _ => "bool"
  | .int _ => "int"
  | .str _ => "str"
  | .tup _ => "tuple"
  | .lst _ => "list"
  | .scr _ => "list"
  | _ => "dict"
def isT (T : String) : DV → Option DV
  | .obj _ => none
  | .dk _ => none
  | .dt _ => none
  | .bl _ => some (.bl (T == "bool" || T == "int"))
  | d => some (.bl (tyD d == T))
theorem tyx_is {F H : Hp} {φ : Phi} (fe : FExt F H) {v : V} {d : DV} (h : IsD K F φ v d) (ho : ∀ n, d ≠ .obj n) (h1 : ∀ n, d ≠ .dk n) (h2 : ∀ n, d ≠ .dt n) : TyX K H v (.type (tyD d)) := by
  cases h with
  | non => exact .base .non
  | bl b => exact .base (.bl b)
  | int i => exact .base (.int i)
  | str s => exact .base (.str s)
  | tup h _ =>
    rcases h with (h | ⟨o, h⟩) | ⟨o, its, n, h, h2, _⟩
    · exact .base (.tup (fe _ _ h))
    · exact .fTuple (fe _ _ h)
    · exact .kTuple h h2
  | lst h _ => exact .base (.lst (fe _ _ h))
  | scr h =>
    rcases h with ⟨o, h⟩ | ⟨o, its, n, h, h2, _⟩
    · exact .base (.frz (fe _ _ h))
    · exact .kList h h2
  | dk h _ _ => exact absurd rfl (h1 _)
  | dt h _ _ => exact absurd rfl (h2 _)
  | obj h => exact absurd rfl (ho _)
/-- the classes that are asked for -/
def kitOK (T : String) : Bool := ["NoneType", "bool", "int", "str", "tuple", "list"].all fun t => decide (kitB t T = some (t == T || (t == "bool" && T == "int")))
theorem pd_isi {T : Str} {TT : String} {pT : Pos} (hu : kitOK TT = true) (hg : Gl X "isinstance") (hm : X.mg "isinstance" = none) (hgT : Gl X T) (hmT : X.mg T = none) (hvT : bootBuiltins T = some (.type TT)) (ha : PE X a (tD X.K c W ea)) (hn : T ≠ "__name__" := by decide) (hd : (T == ("__debug__" : Str)) = false := by decide)
    (he : starEach (a :: [.Name T pT]) X.env = (false, eval a X.env) :: starEach [.Name T pT] X.env := by rfl) (he1 : starEach [.Name T pT] X.env = (false, eval (.Name T pT) X.env) :: starEach [] X.env := by rfl) (hpl : (backTo pos (starEach [.Name T pT] X.env)).any (·.1) = false := by rfl) :
    PE X (.Call (.Name "isinstance" p) [a, .Name T pT] [] pos) (tD X.K c W (eUn (isT TT) ea)) :=
  PE.imp (pe_callB call_isi hg hm (by decide +kernel) (pa_cons ha (pa_cons (pe_bltn (v := .ty TT) hgT hmT hvT rfl hn hd) pa_nil he1) he) (by decide) (by decide) he hpl) fun σ H Q ⟨B, F, φ, ε, S, R, q⟩ => ⟨B, F, φ, ε, S, R, (Run.bind q).mono fun d1 S1 F1 H1 φ1 hr e1 p1 R1 q1 x hx => by
    obtain ⟨d, hd, q3⟩ := Run.opt q1
    have key : ∀ b, (∀ n, d1 ≠ .obj n) → (∀ n, d1 ≠ .dk n) → (∀ n, d1 ≠ .dt n) → kitB (tyD d1) TT = some b → d = .bl b → rIsi X.K [x, .ty TT] H1 Q := fun b o1 o2 o3 hk e => by
      subst e
      exact ⟨x, .ty TT, .type (tyD d1), .type TT, b, rfl, .ty TT, tyx_is R1.core.fh hx o1 o2 o3, kit_ty hk, q3 F1 H1 φ1 (FExt.refl _) (PExt.refl _) R1 _ (.bl b)⟩
    unfold kitOK at hu
    simp only [List.all_cons, List.all_nil, Bool.and_true, Bool.and_eq_true, decide_eq_true_eq] at hu
    obtain ⟨k1, k2, k3, k4, k5, k6⟩ := hu
    cases d1 with
    | obj n => cases hd
    | dk n => cases hd
    | dt n => cases hd
    | non => cases hd; refine key _ (fun _ z => nomatch z) (fun _ z => nomatch z) (fun _ z => nomatch z) k1 ?_; simp [tyD]
    | bl b =>
      cases hd
      refine key _ (fun _ z => nomatch z) (fun _ z => nomatch z) (fun _ z => nomatch z) k2 ?_
      have e1 : (TT == "bool") = ("bool" == TT) := BEq.comm
      rw [e1]
      rfl
    | int i => cases hd; refine key _ (fun _ z => nomatch z) (fun _ z => nomatch z) (fun _ z => nomatch z) k3 ?_; simp [tyD]
    | str i => cases hd; refine key _ (fun _ z => nomatch z) (fun _ z => nomatch z) (fun _ z => nomatch z) k4 ?_; simp [tyD]
    | tup i => cases hd; refine key _ (fun _ z => nomatch z) (fun _ z => nomatch z) (fun _ z => nomatch z) k5 ?_; simp [tyD]
    | lst i => cases hd; refine key _ (fun _ z => nomatch z) (fun _ z => nomatch z) (fun _ z => nomatch z) k6 ?_; simp [tyD]
    | scr i => cases hd; refine key _ (fun _ z => nomatch z) (fun _ z => nomatch z) (fun _ z => nomatch z) k6 ?_; simp [tyD]⟩
theorem kit_int : kitOK "int" = true := by decide +kernel
theorem kit_bool : kitOK "bool" = true := by decide +kernel
theorem kit_str : kitOK "str" = true := by decide +kernel
theorem kit_tuple : kitOK "tuple" = true := by decide +kernel
theorem kit_list : kitOK "list" = true := by decide +kernel
/-- x.bit_length() -/
def gBits : DV → Option DV
  | .int i => some (.int (Builtin.Int.intBits i : Nat))
  | _ => none
theorem pd_bits (ha : PE X a (tD X.K c W ea)) (hbase : attributeBase a "bit_length" X.env (eval a X.env) = eval a X.env := by rfl) (hline : (apos.endLine == pos.line) = true := by rfl) : PE X (.Call (.Attribute a "bit_length" apos) [] [] pos) (tD X.K c W (eUn gBits ea)) :=
  PE.imp (pe_bits ha hbase hline) fun σ H Q ⟨B, F, φ, ε, S, R, q⟩ => ⟨B, F, φ, ε, S, R, (Run.bind q).mono fun d1 S1 F1 H1 φ1 hr e1 p1 R1 q1 x hx => by
    obtain ⟨d, hd, q3⟩ := Run.opt q1
    unfold gBits at hd
    split at hd <;> cases hd
    cases hx
    exact ⟨_, rfl, q3 F1 H1 φ1 (FExt.refl _) (PExt.refl _) R1 _ (.int _)⟩⟩
end

/-! ### the slots' own dicts -/
theorem nt_emp : ∀ ps, HO.dK ([] : List (Key × V)) ≠ .tbl ps := fun _ e => nomatch e
def onK (i : Nat) (ρ : List SL) (f : List (Key × DV) → DF) : DF := match ρ[i]? with
  | some (.ok l) => f l
  | _ => .bad
def sDput (i : Nat) (ei ee : Ev) : Sv := fun ρ S => (ee ρ S).st ρ fun d S1 => onK i ρ fun l => (ei ρ S1).st ρ fun ix S2 => match keyD ix with
  | some k => if l.length < 16777216 then .nx (ρ.set i (.ok (kPut l k d))) S2 else .bad
  | none => .bad
section
variable {X : Cx} {c : DC} {W : WX} {a b e : Expr} {es : List Expr} {ea eb ei : Ev} {er : Evs} {pos p pos' p2 apos : Pos} {x : Str} {st : Stmt}
theorem pdn_dk : PE X (.Dict [] [] pos) (tDn X.K c W (eLit (.dk []))) := PE.imp pe_dnewK fun σ H Q ⟨B, F, φ, ε, S, R, q⟩ => fun p np =>
  q _ _ φ (fext_new R.core (.dK []) np) (PExt.refl _) (R.new _ np nt_emp) _ (.dk upd_same rfl .nil) ⟨p, rfl, R.base0 np⟩
theorem onK_of {K : PySem.W.Frag} {B : Bs} {F : Hp} {φ : Phi} {i : Nat} {ρ : List SL} {f : List (Key × DV) → DF} {D : Ends} (h : RunS K c W B F φ (onK i ρ f) D) : ∃ l, ρ[i]? = some (.ok l) ∧ RunS K c W B F φ (f l) D := by
  unfold onK at h
  split at h
  · rename_i l hl
    exact ⟨l, hl, h⟩
  · exact h.elim
theorem ownK_at {K : PySem.W.Frag} {B : Bs} {F H : Hp} {φ : Phi} {σ : St} {ρ : List SL} {S : List DO} (R : RelS K c B F H φ σ ρ S) {i : Nat} {l : List (Key × DV)} (hi : ρ[i]? = some (.ok l)) :
    ∃ a ks, σ[i]? = some (some (.ref a)) ∧ H a = some (.dK ks) ∧ ks.map (·.1) = l.map (·.1) ∧ IsDs K F φ (ks.map (·.2)) (l.map (·.2)) := by
  obtain ⟨a, u, e, g1, g2, g3, g4, xs, rfl, g5, g6⟩ := (R.sl i _ hi).at rfl
  exact ⟨a, xs, e, g4, g5, g6⟩
theorem kput_is {κ : Type} [DecidableEq κ] {K : PySem.W.Frag} {F : Hp} {φ : Phi} {v : V} {d : DV} (hv : IsD K F φ v d) (ks : List (κ × V)) (l : List (κ × DV)) (h1 : ks.map (·.1) = l.map (·.1)) (h2 : IsDs K F φ (ks.map (·.2)) (l.map (·.2))) (k : κ) :
    (putK ks k v).map (·.1) = (kPut l k d).map (·.1) ∧ IsDs K F φ ((putK ks k v).map (·.2)) ((kPut l k d).map (·.2)) := by
  have ha : ∀ (ks : List (κ × V)) (l : List (κ × DV)), ks.map (·.1) = l.map (·.1) → (ks.any fun kv => decide (kv.1 = k)) = l.any fun kv => decide (kv.1 = k) := fun ks l h => by
    have e1 : (ks.any fun kv => decide (kv.1 = k)) = (ks.map (·.1)).any fun z => decide (z = k) := by rw [List.any_map]; rfl
    have e2 : (l.any fun kv => decide (kv.1 = k)) = (l.map (·.1)).any fun z => decide (z = k) := by rw [List.any_map]; rfl
    rw [e1, e2, h]
  unfold putK kPut
  rw [ha ks l h1]
  split
  · induction ks generalizing l with
    | nil =>
      cases l with
      | nil => exact ⟨rfl, .nil⟩
      | cons _ _ => cases h1
    | cons p ks ih =>
      cases l with
      | nil => cases h1
      | cons q l =>
        obtain ⟨k1, v1⟩ := p
        obtain ⟨k2, d2⟩ := q
        have e1 : k1 = k2 := (List.cons.inj h1).1
        subst e1
        cases h2 with
        | cons g1 g2 =>
          have rec_ : ∀ (ks : List (κ × V)) (l : List (κ × DV)), ks.map (·.1) = l.map (·.1) → IsDs K F φ (ks.map (·.2)) (l.map (·.2)) →
              (ks.map fun kv => if kv.1 = k then (kv.1, v) else kv).map (·.1) = (l.map fun kv => if kv.1 = k then (kv.1, d) else kv).map (·.1) ∧ IsDs K F φ ((ks.map fun kv => if kv.1 = k then (kv.1, v) else kv).map (·.2)) ((l.map fun kv => if kv.1 = k then (kv.1, d) else kv).map (·.2)) := by
            intro ks
            induction ks with
            | nil =>
              intro l h1 h2
              cases l with
              | nil => exact ⟨rfl, .nil⟩
              | cons _ _ => cases h1
            | cons p ks ih =>
              intro l h1 h2
              cases l with
              | nil => cases h1
              | cons q l =>
                obtain ⟨k1, v1⟩ := p
                obtain ⟨k2, d2⟩ := q
                have e1 : k1 = k2 := (List.cons.inj h1).1
                subst e1
                cases h2 with
                | cons g1 g2 =>
                  obtain ⟨i1, i2⟩ := ih l (List.cons.inj h1).2 g2
                  simp only [List.map_cons]
                  by_cases hk : k1 = k
                  · simp only [hk, if_true]
                    exact ⟨by rw [i1], .cons hv i2⟩
                  · simp only [hk, if_false]
                    exact ⟨by rw [i1], .cons g1 i2⟩
          exact rec_ ((k1, v1) :: ks) ((k1, d2) :: l) h1 (.cons g1 g2)
  · rw [List.map_append, List.map_append, List.map_append, List.map_append]
    exact ⟨by rw [h1]; rfl, h2.append (.cons hv .nil)⟩
theorem psd_dput {i : Nat} {ix : Expr} (hu : X.A.units + 1 < cLine) (hx : PE X (.Name x p) (tVar i)) (hi' : PE X ix (tD X.K c W ei)) (he : PE X e (tD X.K c W ea)) (hs : swapsWith e (some (.Subscript (.Name x p) ix p2)) pos.line X.env = pure false := by rfl) :
    PS X (.Assign [.Subscript (.Name x p) ix p2] e pos) (tS X.K c W (sDput i ei ea)) :=
  PS.imp (ps_dput hu hx hi' he hs) fun σ H D ⟨B, F, φ, ρ, S, R, q⟩ =>
    ⟨_, F, φ, ρ, S, R.enter, (RunS.st R q).mono fun d S1 F1 H1 φ1 hr _ _ _ ⟨R1, C, q1⟩ v hv => by
      obtain ⟨l, hi, q1⟩ := onK_of q1
      obtain ⟨a, ks, e1, e2, e3, e4⟩ := ownK_at R1 hi
      refine ⟨.ref a, e1, _, F1, φ1, ρ, S1, R1.enter, (RunS.st R1 q1).mono fun ix S2 F2 H2 φ2 hr2 ee pp _ ⟨R2, C2, q2⟩ kv hk => ?_⟩
      obtain ⟨a', ks', g1, g2, g3, g4⟩ := ownK_at R2 hi
      rw [e1] at g1
      cases g1
      split at q2
      · rename_i k hk2
        split at q2
        · rename_i hl
          rw [key_is hk hk2]
          have elen := congrArg List.length g3
          rw [List.length_map, List.length_map] at elen
          refine ⟨a, _, rfl, DPut.k g2 (by rw [elen, sizeLine_eq]; exact hl), ?_⟩
          obtain ⟨w1, w2⟩ := kput_is (hv.mono ee pp) ks' l g3 g4 k
          exact q2 σ F2 _ φ2 (FExt.refl _) (PExt.refl _) (R2.chg hi rfl e1 g2 (s' := .ok (kPut l k d)) ⟨_, rfl, w1, w2⟩)
        · exact q2.elim
      · exact q2.elim⟩
end
end DL

namespace DL
open PySem PySem.Spec L2
open PyProof.Rows hiding St

/-! ### a, b = e1, e2 where new lists or dicts come to names -/
def toSl (fl : Bool) (d : DV) : Option SL := if fl = true then toOwn d else some (.val d)
/-- with a word whether it is new -/
def tDg (K : PySem.W.Frag) (c : DC) (W : WX) (fl : Bool) (f : Ev) : TE := fun σ H Q => ∃ B F φ ε S, RelE K c B F H φ σ ε S ∧ Run K c W B F φ σ ε (f ε S) fun d _ F' H' φ' => ∀ v, IsD K F' φ' v d → (fl = true → ∃ a, v = .ref a ∧ B.H0 a = none) → Q v H'
def sParO (k1 k2 : Bool) (i j : Nat) (ea eb : Ev) : Sv := fun ρ S => (ea ρ S).st ρ fun d1 S1 => (eb ρ S1).st ρ fun d2 S2 => match toSl k1 d1, toSl k2 d2 with
  | some s1, some s2 => if i < ρ.length ∧ j < ρ.length then .nx ((ρ.set i s1).set j s2) S2 else .bad
  | _, _ => .bad
section
variable {X : Cx} {c : DC} {W : WX} {a b e : Expr} {es : List Expr} {ea eb ei : Ev} {er : Evs} {pos p pos' p2 apos : Pos} {x : Str} {st : Stmt}
theorem pdg_n (h : PE X e (tDn X.K c W ea)) : PE X e (tDg X.K c W true ea) := PE.imp h fun σ H Q ⟨B, F, φ, ε, S, R, q⟩ => ⟨B, F, φ, ε, S, R, q.mono fun d S1 F1 H1 φ1 _ _ _ _ q1 v hv hn => q1 v hv fun _ => hn⟩
theorem pdg_d (h : PE X e (tD X.K c W ea)) : PE X e (tDg X.K c W false ea) := PE.imp h fun σ H Q ⟨B, F, φ, ε, S, R, q⟩ => ⟨B, F, φ, ε, S, R, q.mono fun d S1 F1 H1 φ1 _ _ _ _ q1 v hv => q1 v hv fun z => nomatch z⟩
/-- a value on its way to a slot: a clean one, or a new thing that is not frozen -/
def Way (K : PySem.W.Frag) (B : Bs) (F H : Hp) (φ : Phi) (σ : St) (ρ : List SL) (v : V) (s : SL) : Prop :=
  (∃ d, s = .val d ∧ IsD K F φ v d) ∨ ∃ a u, v = .ref a ∧ s.own = true ∧ H a = some u ∧ F a = none ∧ a ∉ φ.flatten ∧ B.H0 a = none ∧ ¬ OwnS σ ρ a ∧ IsHO K F φ u s
theorem Way.after {K : PySem.W.Frag} {B : Bs} {F H F' H' : Hp} {φ φ' : Phi} {σ : St} {ρ : List SL} {S' : List DO} {v : V} {s : SL} (A : Way K B F H φ σ ρ v s) (E : Core K c ⟨H, F, φ⟩ F' H' φ' S') : Way K B F' H' φ' σ ρ v s := by
  rcases A with ⟨d, rfl, h⟩ | ⟨a, u, rfl, ho, h1, h3, h4, h5, h6, h7⟩
  · exact .inl ⟨d, rfl, h.mono E.f0 E.pext⟩
  · refine .inr ⟨a, u, rfl, ho, E.kp a _ h1 h4 h7.notbl.1, ?_, fun hp => ?_, h5, h6, h7.mono E.f0 E.pext⟩
    · cases q : F' a with
      | none => rfl
      | some w =>
        rcases E.fn a w q with z | z
        · rw [show F a = some w from z] at h3; cases h3
        · rw [show H a = none from z] at h1; cases h1
    · obtain ⟨ψ, e, hψ⟩ := E.ph
      rw [e, List.flatten_append, List.mem_append] at hp
      rcases hp with hp | hp
      · exact h4 hp
      · rw [show H a = none from hψ a hp] at h1; cases h1
/-- behind the expression -/
theorem way_of {K : PySem.W.Frag} {B : Bs} {F H F' H' : Hp} {φ φ' : Phi} {σ : St} {ρ : List SL} {S S' : List DO} {v : V} {d : DV} {s : SL} {fl : Bool} (R : RelS K c B F H φ σ ρ S) (E : Core K c ⟨H, F, φ⟩ F' H' φ' S') (hv : IsD K F' φ' v d) (hn : fl = true → ∃ a, v = .ref a ∧ H a = none) (hs : toSl fl d = some s) :
    ∃ F2, Core K c ⟨H, F, φ⟩ F2 H' φ' S' ∧ Way K B F2 H' φ' σ ρ v s := by
  cases fl with
  | false =>
    cases hs
    exact ⟨F', E, .inl ⟨d, rfl, hv⟩⟩
  | true =>
    obtain ⟨a, rfl, na⟩ := hn rfl
    have hs : toOwn d = some s := hs
    obtain ⟨u, h1, h2, _⟩ := toOwn_is hv hs (F' := F') ⟨fun _ _ z => z, fun _ _ _ z => z⟩
    obtain ⟨u', h1', _, h3⟩ := toOwn_is hv hs (F' := DL.cut F' (· = a)) (cut1 h1 h2)
    rw [h1] at h1'
    cases h1'
    refine ⟨DL.cut F' (· = a), E.cut (· = a) (fun b e => ?_) fun b e => ?_, .inr ⟨a, u, rfl, h2.own, E.fh a u h1, cut_pos (P := fun x => x = a) rfl, fun hp => ?_, R.core.none0 na, fun ho => ?_, h3⟩⟩
    · subst e
      cases q : F b with
      | none => exact q
      | some o => have z := R.core.fh b o q; rw [na] at z; cases z
    · subst e
      rw [h1]
      exact ⟨fun xs z => h2.notbl.2.1 xs (Option.some.inj z), fun o w z => h2.notbl.2.2 o w (Option.some.inj z)⟩
    · have := E.pf a hp; rw [h1] at this; cases this
    · obtain ⟨_, _, w, _, _, _, _, _, g, _⟩ := R.enter.ownAt ho
      rw [na] at g; cases g
theorem RelS.land {K : PySem.W.Frag} {B : Bs} {F H : Hp} {φ : Phi} {σ : St} {ρ : List SL} {S : List DO} {v : V} {s : SL} (R : RelS K c B F H φ σ ρ S) (A : Way K B F H φ σ ρ v s) (i : Nat) (hi : i < ρ.length) : RelS K c B F H φ (σ.set i (some v)) (ρ.set i s) S := by
  rcases A with ⟨d, rfl, h⟩ | ⟨a, u, rfl, ho, h1, h3, h4, h5, h6, h7⟩
  · exact R.setVal i hi h
  · exact R.setOwn i hi h1 h3 h4 h5 h6 h7
/-- another way stays a way when a slot is filled, if the two are apart -/
theorem Way.other {K : PySem.W.Frag} {B : Bs} {F H : Hp} {φ : Phi} {σ : St} {ρ : List SL} {v w : V} {s t : SL} {i : Nat} (A : Way K B F H φ σ ρ v s) (hne : v ≠ w ∨ s.own = false ∨ t.own = false) (hi : i < ρ.length) (hl : σ.length = ρ.length) : Way K B F H φ (σ.set i (some w)) (ρ.set i t) v s := by
  rcases A with ⟨d, rfl, h⟩ | ⟨a, u, rfl, ho, h1, h3, h4, h5, h6, h7⟩
  · exact .inl ⟨d, rfl, h⟩
  · refine .inr ⟨a, u, rfl, ho, h1, h3, h4, h5, fun ⟨j, s', g1, g2, g3⟩ => ?_, h7⟩
    by_cases hj : i = j
    · subst hj
      rw [List.getElem?_set_self (by rw [hl]; exact hi)] at g3
      have e : w = .ref a := Option.some.inj (Option.some.inj g3)
      rw [List.getElem?_set_self hi] at g1
      have e2 : t = s' := Option.some.inj g1
      rcases hne with z | z | z
      · exact z e.symm
      · rw [ho] at z; cases z
      · rw [e2, g2] at z; cases z
    · rw [List.getElem?_set_ne hj] at g1 g3
      exact h6 ⟨j, s', g1, g2, g3⟩
theorem psd_parO {i j : Nat} {x y : Str} {px py pt : Pos} {kt k2 pt2} {f1 f2 : Bool} (hc : X.calm = true) (hN : X.N.Nodup) (hi : X.N[i]? = some x) (hj : X.N[j]? = some y) (hij : i ≠ j)
    (hx : X.env.scope.names.lookup x = some .local) (hy : X.env.scope.names.lookup y = some .local) (ha : PE X a (tDg X.K c W f1 ea)) (hb : PE X b (tDg X.K c W f2 eb))
    (hw : swappedStores [.Tuple [.Name x px, .Name y py] kt pt] (.Tuple [a, b] k2 pt2) X.env = pure (some [x, y]))
    (hs : swapsWithSole [.Tuple [.Name x px, .Name y py] kt pt] (.Tuple [a, b] k2 pt2) pos.line X.env = pure false := by rfl)
    (hs1 : starEach [a, b] X.env = (false, eval a X.env) :: starEach [b] X.env := by rfl) (hs2 : starEach [b] X.env = (false, eval b X.env) :: starEach [] X.env := by rfl) :
    PS X (.Assign [.Tuple [.Name x px, .Name y py] kt pt] (.Tuple [a, b] k2 pt2) pos) (tS X.K c W (sParO f1 f2 i j ea eb)) :=
  PS.imp (ps_par hc hN hi hj hij hx hy (pa_cons ha (pa_cons hb pa_nil hs2) hs1) hw hs) fun σ H D ⟨B, F, φ, ρ, S, R, q⟩ =>
    ⟨_, F, φ, ρ, S, R.enter, (RunS.st R q).mono fun d1 S1 F1 H1 φ1 hr _ _ RE ⟨R1, C1, q1⟩ v hv hn => by
      -- what comes behind hangs on the first value's kind
      cases h1 : toSl f1 d1 with
      | none =>
        -- no way on: the second expression's result is of no use
        have dead : ∀ d2, (match toSl f1 d1, toSl f2 d2 with
          | some s1, some s2 => fun S2 : List DO => if i < ρ.length ∧ j < ρ.length then DF.nx ((ρ.set i s1).set j s2) S2 else .bad
          | _, _ => fun _ => DF.bad) = fun _ => DF.bad := fun d2 => by rw [h1]
        refine ⟨_, F1, φ1, ρ, S1, R1.enter, (RunS.st R1 q1).mono fun d2 S2 F2 H2 φ2 hr2 _ _ _ ⟨R2, C2, q2⟩ w hw hn2 => ?_⟩
        rw [h1] at q2
        exact q2.elim
      | some s1 =>
        obtain ⟨F1', E1, A1⟩ := way_of (B := B) R C1 hv hn h1
        have R1' : RelS X.K c B F1' H1 φ1 σ ρ S1 := R.after E1
        -- run the second one over the heap without the first value frozen
        cases h2 : eb ρ S1 with
        | exc z fs S2 =>
          rw [h2] at q1
          refine ⟨_, F1', φ1, ρ, S1, R1'.enter, ?_⟩
          rw [h2]
          have q1 := (show RunS X.K c W B F1 φ1 (.exc z fs ρ S2) D from q1)
          -- back at the start the exception is as well let out
          have q0 : RunS X.K c W B F φ (.exc z fs ρ S2) D := by
            have q := q
            unfold sParO at q
            rw [hr] at q
            dsimp only [DR.st] at q
            rw [h2] at q
            exact q
          exact fun cls dd F' H' φ' e p R' hx => q0 cls dd σ F' H' φ' (E1.f0.trans e) (E1.pext.trans p) (R1'.after R'.core) hx
        | bad => rw [h2] at q1; exact q1.elim
        | ok d2 S2 =>
          refine ⟨_, F1', φ1, ρ, S1, R1'.enter, ?_⟩
          rw [h2]
          intro F2 H2 φ2 e2 p2 RE2 w hw hn2
          have C2 := RE2.core
          have q0 : RunS X.K c W B F φ (match toSl f1 d1, toSl f2 d2 with
            | some s1, some s2 => if i < ρ.length ∧ j < ρ.length then .nx ((ρ.set i s1).set j s2) S2 else .bad
            | _, _ => .bad) D := by
            have q := q
            unfold sParO at q
            rw [hr] at q
            dsimp only [DR.st] at q
            rw [h2] at q
            exact q
          rw [h1] at q0
          cases h3 : toSl f2 d2 with
          | none => rw [h3] at q0; exact q0.elim
          | some s2 =>
            rw [h3] at q0
            dsimp only at q0
            split at q0
            · rename_i hl
              obtain ⟨F2', E2, A2⟩ := way_of (B := B) R1' C2 hw hn2 h3
              have R2 : RelS X.K c B F2' H2 φ2 σ ρ S2 := R1'.after E2
              have A1' := A1.after E2
              have ne : w ≠ v ∨ s2.own = false ∨ s1.own = false := by
                rcases A1 with ⟨d, rfl, hd⟩ | ⟨a1, u, rfl, ho, g1, _⟩
                · exact .inr (.inr rfl)
                · cases f2 with
                  | false =>
                    cases h3
                    exact .inr (.inl rfl)
                  | true =>
                    obtain ⟨a2, rfl, n2⟩ := hn2 rfl
                    refine .inl fun e => ?_
                    cases e
                    rw [show H1 _ = none from n2] at g1
                    cases g1
              have R3 := R2.land A1' i hl.1
              have R4 := R3.land (A2.other ne hl.1 R2.len) j (by rw [List.length_set]; exact hl.2)
              exact ⟨_, _, rfl, q0 _ _ _ _ (E1.f0.trans E2.f0) (E1.pext.trans E2.pext) R4⟩
            · exact q0.elim⟩
end
end DL

namespace DL
open PySem PySem.Spec L2
open PyProof.Rows hiding St

/-! ### defs of the text -/
/-- the def x is there and computes m, by at most level k -/
structure FnAt (P : Program) (w : World) (K : PySem.W.Frag) (mg : Str → Option Value) (base : Heap) (c : DC) (x : Str) (k n : Nat) (m : Fn) : Prop where
  ex : ∃ (f : Addr) (fd : FuncData) (ps : List Str), FnOk P w K mg base (L2.CX P w) k f fd ps (spD K c n m) ∧ mg x = some (.ref f) ∧ PySem.W.keepIn K (.ref f) = true ∧ Binds K fd ps []
/-- the def x of the text stands at its name -/
structure DefAt (K : PySem.W.Frag) (mg : Str → Option Value) (x : Str) (st : Stmt) (ps : List Str) : Prop where
  ex : ∃ (f : Addr) (fd : FuncData), Fun K x x st f fd ∧ mg x = some (.ref f) ∧ Binds K fd ps []
section
variable {P : Program} {w : World} {K : PySem.W.Frag} {mg : Str → Option Value} {base : Heap} {c : DC}
theorem fn_at {x : Str} {st : Stmt} {N ps : List Str} {k : Nat} {sv : Sv} (D : DefAt K mg x st ps) (S : FnScope N ps (defScope st))
    (hb : ∀ (f : Addr) (cdv : Value) (A : Around) (outer : List Env) (s : Shared) (H : Hp) (E : XK), Go (cxF P w K mg base N x st f cdv A outer s H E) (wE E) k → PSs (cxF P w K mg base N x st f cdv A outer s H E) (defBody st) (tS K c (wE E) sv)) :
    FnAt P w K mg base c x (k + 1) ps.length (mkFn N.length sv) := by
  obtain ⟨f, fd, F, hm, hb'⟩ := D.ex
  exact ⟨f, fd, ps, ok_def F S (hb f), hm, F.kp, hb'⟩
theorem FnAt.mono {x : Str} {j k n : Nat} {m : Fn} (h : FnAt P w K mg base c x j n m) (hk : j ≤ k) : FnAt P w K mg base c x k n m := by
  obtain ⟨f, fd, ps, F, r⟩ := h.ex
  exact ⟨f, fd, ps, F.mono hk, r⟩
/-- another name for what it computes -/
theorem FnAt.eq {x : Str} {k n : Nat} {m m' : Fn} (h : FnAt P w K mg base c x k n m) (e : ∀ ds S, ds.length = n → m' ds S ≠ .bad → m ds S = m' ds S) : FnAt P w K mg base c x k n m' := by
  obtain ⟨f, fd, ps, F, r⟩ := h.ex
  refine ⟨f, fd, ps, F.imp fun vs H Q E ⟨F, φ, S, ds, C, hv, hl, q⟩ => ⟨F, φ, S, ds, C, hv, hl, ?_⟩, r⟩
  rw [e ds S hl fun z => by rw [z] at q; exact q]
  exact q
theorem def_at {h : Heap} {x : Str} {st : Stmt} {ps : List Str} {f : Addr} {oc : Value} {od an : Option Addr} {osl : Array (Option Value)} {kV doc pm cdv ct : Value} (X : K.In h) (G : h.Ns mainGlobals mg)
    (a : PySem.W.nsIn K mainGlobals x = some (some (.ref f))) (l : K.lookup f = some ⟨oc, od, .func (PySem.W.fnOf x x (defArgs st) (defBody st) (defScope st) .none kV doc pm an cdv ct), osl⟩) (cc : PySem.W.codeIn K cdv x = true) (k : PySem.W.keepIn K (.ref f) = true)
    (hb : ∀ (kV doc pm : Value) (an : Option Addr) (cdv ct : Value) (us : List Value), us.length = ps.length → bindArgs (PySem.W.fnOf x x (defArgs st) (defBody st) (defScope st) .none kV doc pm an cdv ct) ⟨us, []⟩ = pure (ps.zip us)) : DefAt K mg x st ps :=
  ⟨f, _, fun_mk l cc k, PySem.W.mg_of X G a, (fun_mk l cc k).binds hb⟩
end
section
variable {X : Cx} {c : DC} {W : WX} {e : Expr} {es : List Expr} {er : Evs} {pos p : Pos} {k k' n : Nat} {m : Fn} {x : Str}
theorem pd_callF (h : FnAt X.prog X.w X.K X.mg X.base c x k n m) (hk : k ≤ k') (hr : Room k' X.A) (hg : Gl X x) (tk : Takes X W) (ha : PA X (e :: es) (tDs X.K c W er)) (hl : ALen er n) (hdb : (x == ("__debug__" : Str)) = false := by decide)
    (he : starEach (e :: es) X.env = (false, eval e X.env) :: starEach es X.env := by rfl) (hpl : (backTo pos (starEach es X.env)).any (·.1) = false := by rfl) : PE X (.Call (.Name x p) (e :: es) [] pos) (tD X.K c W (eCall m er)) := by
  obtain ⟨f, fd, ps, F, hm, hkp, hb⟩ := h.ex
  exact pd_call F (hr.mono hk) hg hm hkp hb tk ha hl hdb he hpl
end

/-! ### a law's script, at the end -/
theorem only_core {K : PySem.W.Frag} {c : DC} {H : Hp} (hO : Only H) (ht : c.tb = []) : Core K c ⟨H, H, []⟩ H H [] [] := by
  refine ⟨FExt.refl _, fun _ _ h => h, fun _ _ h => .inl h, fun _ _ h _ _ => h, fun _ h => h, ⟨[], rfl, fun _ h => (nomatch h)⟩, .nil, fun _ h => (nomatch h), rfl, fun i p o h => (by simp at h), ?_, fun a ps h => ?_⟩
  · rw [ht]
    exact fun _ h => nomatch h
  · rcases hO a with z | ⟨o, xs, z⟩
    · rw [z] at h; cases h
    · rw [z] at h; cases h
theorem script_at {K : PySem.W.Frag} {H : Hp} {a : Addr} {ns : List Int} (hO : Only H) (h : SqL K H a (ns.map V.int)) : ScrAt K H a ns := by
  rcases h with (h | ⟨o, h⟩) | h
  · rcases hO a with z | ⟨o, xs, z⟩
    · rw [z] at h; cases h
    · rw [z] at h; cases h
  · exact .inl ⟨o, h⟩
  · exact .inr h
theorem law_sp {K : PySem.W.Frag} {c : DC} {m : Fn} {H : Hp} {a : Addr} {ns : List Int} (ht : c.tb = []) (hO : Only H) (h : SqL K H a (ns.map V.int)) (hm : ∃ S, m [.scr ns] [] = .ok (.bl true) S) : spD K c 1 m [.ref a] H (fun v _ => v = .bl true) fun _ _ _ => False := by
  obtain ⟨S, hm⟩ := hm
  refine ⟨H, [], [], [.scr ns], only_core hO ht, .cons (.scr (script_at hO h)) .nil, rfl, ?_⟩
  rw [hm]
  exact fun v F' H' φ' C hv => by cases hv; rfl
theorem cx_no {P : Program} {w : World} {H : Hp} {s : Shared} {e : Value} {s' : Shared} (h : L2.CX P w [] H s (fun _ _ _ => False) e s') : False := by
  obtain ⟨_, _, _, _, _, _, _, _, _, _, _, _, z⟩ := h
  exact z

/-! ### objects of the store -/
section
variable {K : PySem.W.Frag} {c : DC} {B : Bs} {F H H' : Hp} {φ : Phi} {σ : St} {ρ : List SL} {S : List DO}
/-- a new thing is laid, not frozen -/
theorem Core.lay (C : Core K c B F H φ S) {p : Addr} (o : HO) (np : H p = none) (ht : ∀ ps, o ≠ .tbl ps) (h1 : ∀ xs, o ≠ .tup xs) (h2 : ∀ a w, o ≠ .frz a w) : Core K c B F (upd H p o) φ S := by
  have nF : F p = none := by
    cases z : F p with
    | none => rfl
    | some u => have := C.fh p u z; rw [np] at this; cases this
  have R := (C.new o np ht).cut (· = p) (fun a e => by
    subst e
    cases z : B.F0 a with
    | none => rfl
    | some u => have := C.f0 a u z; rw [nF] at this; cases this) fun a e => by
      subst e
      rw [upd_same]
      exact ⟨fun xs z => h1 xs (Option.some.inj z), fun o w z => h2 o w (Option.some.inj z)⟩
  have e : DL.cut (upd F p o) (· = p) = F := by
    funext b
    by_cases z : b = p
    · subst z
      rw [cut_pos (P := fun x => x = b) rfl, nF]
    · rw [cut_neg (P := fun x => x = p) z, upd_ne z]
  rw [e] at R
  exact R
theorem Core.push (C : Core K c B F H φ S) {q : List Addr} {o : DO} (hq : ∀ a ∈ q, F a = none ∧ a ∉ φ.flatten ∧ B.H0 a = none) (nd : q.Nodup) (hO : ObOk K c H F (φ ++ [q]) q o) : Core K c B F H (φ ++ [q]) (S ++ [o]) := by
  obtain ⟨ψ, e, hψ⟩ := C.ph
  have hf : (φ ++ [q]).flatten = φ.flatten ++ q := by simp
  refine ⟨C.f0, C.fh, C.fn, C.kp, C.ex, ⟨ψ ++ [q], by rw [e, List.append_assoc], fun a ha => ?_⟩, ?_, fun a ha => ?_, by rw [List.length_append, List.length_append, C.ln]; rfl, fun i p u h1 h2 => ?_, C.tb, C.ft⟩
  · have e2 : (ψ ++ [q]).flatten = ψ.flatten ++ q := by simp
    rw [e2, List.mem_append] at ha
    rcases ha with ha | ha
    · exact hψ a ha
    · exact (hq a ha).2.2
  · rw [hf, List.nodup_append]
    exact ⟨C.nd, nd, fun a h1 b h2 z => (hq b h2).2.1 (by rw [← z]; exact h1)⟩
  · rw [hf, List.mem_append] at ha
    rcases ha with ha | ha
    · exact C.pf a ha
    · exact (hq a ha).1
  · by_cases hi : i < φ.length
    · rw [List.getElem?_append_left hi] at h1
      rw [List.getElem?_append_left (by rw [← C.ln]; exact hi)] at h2
      exact (C.ob i p u h1 h2).mono (FExt.refl _) ⟨[q], rfl⟩
    · have hl : i = φ.length := by
        have := (List.getElem?_eq_some_iff.mp h1).1
        rw [List.length_append, List.length_singleton] at this
        omega
      subst hl
      rw [List.getElem?_append_right (Nat.le_refl _), Nat.sub_self] at h1
      rw [C.ln, List.getElem?_append_right (Nat.le_refl _), Nat.sub_self] at h2
      cases h1
      cases h2
      exact hO
theorem ObOk.kind {q : List Addr} {o : DO} (h : ObOk K c H F φ q o) : ∀ a ∈ q, ∃ u, H a = some u ∧ (∀ ps, u ≠ .tbl ps) ∧ ∀ b s, u ≠ LamX.CodeO b s := by
  cases o with
  | tape cells seed =>
    obtain ⟨a, b, rfl, h1, h2⟩ := h
    intro x hx
    simp only [List.mem_cons, List.not_mem_nil, or_false] at hx
    rcases hx with rfl | rfl
    · exact ⟨_, h1, fun _ z => (nomatch z), fun _ _ z => by unfold LamX.CodeO at z; cases z⟩
    · exact ⟨_, h2, fun _ z => (nomatch z), fun _ _ z => by unfold LamX.CodeO at z; cases z⟩
  | ins x fs =>
    obtain ⟨a, dx, C, vs, rfl, e1, e2, e3, e4⟩ := h
    intro x hx
    simp only [List.mem_cons, List.not_mem_nil, or_false] at hx
    rcases hx with rfl | rfl
    · exact ⟨_, e2, fun _ z => (nomatch z), fun _ _ z => by unfold LamX.CodeO at z; cases z⟩
    · exact ⟨_, e3, fun _ z => (nomatch z), fun _ _ z => by unfold LamX.CodeO at z; cases z⟩
theorem apart_of {φ : Phi} (nd : φ.flatten.Nodup) {i j : Nat} {p q : List Addr} (h1 : φ[i]? = some p) (h2 : φ[j]? = some q) (hij : i ≠ j) : ∀ a ∈ p, a ∉ q := by
  have pw := (List.pairwise_flatten.mp nd).2
  have hi := (List.getElem?_eq_some_iff.mp h1)
  have hj := (List.getElem?_eq_some_iff.mp h2)
  obtain ⟨hi, rfl⟩ := hi
  obtain ⟨hj, rfl⟩ := hj
  intro a ha hb
  rcases Nat.lt_or_gt_of_ne hij with z | z
  · exact (List.pairwise_iff_getElem.mp pw) i j hi hj z a ha a hb rfl
  · exact (List.pairwise_iff_getElem.mp pw) j i hj hi z a hb a ha rfl
/-- an object of the store is changed, at its own addresses -/
theorem Core.setOb (C : Core K c B F H φ S) {n : Nat} {q : List Addr} {o o' : DO} (hq : φ[n]? = some q) (ho : S[n]? = some o) (hH : ∀ a, a ∉ q → H' a = H a) (hO : ObOk K c H' F φ q o') : Core K c B F H' φ (S.set n o') := by
  have qf : ∀ a ∈ q, a ∈ φ.flatten := fun a ha => List.mem_flatten.mpr ⟨q, List.mem_of_getElem? hq, ha⟩
  have kd := (C.ob n q o hq ho).kind
  obtain ⟨ψ, e, hψ⟩ := C.ph
  refine ⟨C.f0, fun a u h => ?_, C.fn, fun a u h hp ht => ?_, fun a h => ?_, ⟨ψ, e, hψ⟩, C.nd, C.pf, by rw [List.length_set]; exact C.ln, fun i p u h1 h2 => ?_, fun p hp => ?_, C.ft⟩
  · rw [hH a fun z => by have := C.pf a (qf a z); rw [h] at this; cases this]
    exact C.fh a u h
  · rw [hH a fun z => ?_]
    · exact C.kp a u h hp ht
    · have := qf a z
      rw [e, List.flatten_append, List.mem_append] at this
      rcases this with z | z
      · exact hp z
      · rw [hψ a z] at h; cases h
  · by_cases z : a ∈ q
    · exact hO.there a z
    · rw [hH a z]; exact C.ex a h
  · by_cases hi : n = i
    · subst hi
      rw [hq] at h1
      cases h1
      rw [List.getElem?_set_self (by rw [← C.ln]; exact (List.getElem?_eq_some_iff.mp hq).1)] at h2
      cases h2
      exact hO
    · rw [List.getElem?_set_ne hi] at h2
      exact (C.ob i p u h1 h2).stay fun a ha w hw => by
        rw [hH a fun z => apart_of C.nd h1 hq (Ne.symm hi) a ha z]
        exact hw
  · obtain ⟨ps, t1, t2, t3⟩ := C.tb p hp
    have n1 : p.1 ∉ q := fun z => by
      obtain ⟨u, g1, g2, _⟩ := kd p.1 z
      rw [t1] at g1
      exact g2 ps (Option.some.inj g1).symm
    refine ⟨ps, by rw [hH p.1 n1]; exact t1, t2, fun pos cv hc => ?_⟩
    obtain ⟨x, e1, e2⟩ := t3 pos cv hc
    have n2 : x ∉ q := fun z => by
      obtain ⟨u, g1, _, g2⟩ := kd x z
      rw [e2] at g1
      exact g2 _ _ (Option.some.inj g1).symm
    exact ⟨x, e1, by rw [hH x n2]; exact e2⟩
end

/-! ### a law's tape -/
def sRetTape (f1 f2 : Ev) : Sv := fun ρ S => (f1 ρ S).st ρ fun d1 S1 => (f2 ρ S1).st ρ fun d2 S2 => match d1, d2 with
  | .lst l, .int i => (match ints? l with
    | some ns => .rt (.obj S2.length) (S2 ++ [.tape ns i])
    | none => .bad)
  | _, _ => .bad
section
variable {X : Cx} {c : DC} {W : WX} {a b e : Expr} {es : List Expr} {ea eb ei : Ev} {er : Evs} {pos p pos' p2 apos : Pos} {x : Str} {st : Stmt}
theorem psd_retTape (ha : PE X a (tDn X.K c W ea)) (hb : PE X b (tD X.K c W eb)) (hs1 : starEach [a, b] X.env = (false, eval a X.env) :: starEach [b] X.env := by rfl) (hs2 : starEach [b] X.env = (false, eval b X.env) :: starEach [] X.env := by rfl) :
    PS X (.Return (some (.List [a, b] p)) pos) (tS X.K c W (sRetTape ea eb)) :=
  PS.imp (ps_ret (pe_lst (pa_cons ha (pa_cons hb pa_nil hs2) hs1))) fun σ H D ⟨B, F, φ, ρ, S, R, q⟩ => by
    refine ⟨_, F, φ, ρ, S, R.enter, (RunS.st R q).mono fun d1 S1 F1 H1 φ1 hr _ _ RE ⟨R1, C1, q1⟩ v hv hn => ?_⟩
    obtain ⟨a, rfl, na⟩ := hn
    have na : H a = none := na
    have nF : F a = none := by
      cases z : F a with
      | none => rfl
      | some u => have := R.core.fh a u z; rw [na] at this; cases this
    cases d1 with
    | lst l =>
      cases hv with
      | @lst _ xs _ h1 h2 =>
        have E1 : Core X.K c ⟨H, F, φ⟩ (DL.cut F1 (· = a)) H1 φ1 S1 := C1.cut (· = a) (fun b e => by rw [e]; exact nF) fun b e => by
          rw [e, h1]
          exact ⟨fun xs z => (nomatch z), fun o w z => nomatch z⟩
        have R1' := R.after E1
        have unf : (sRetTape ea eb ρ S) = (eb ρ S1).st ρ fun d2 S2 => match DV.lst l, d2 with
          | .lst l, .int i => (match ints? l with
            | some ns => DF.rt (.obj S2.length) (S2 ++ [.tape ns i])
            | none => .bad)
          | _, _ => .bad := by unfold sRetTape; rw [hr]; rfl
        rw [unf] at q
        have q := q.ext E1.f0 E1.pext
        refine ⟨_, _, φ1, ρ, S1, R1'.enter, (RunS.st R1' q).mono fun d2 S2 F2 H2 φ2 hr2 _ _ RE2 ⟨R2, C2, q2⟩ w hw => ⟨by show 2 ≤ sizeLine; rw [sizeLine_eq]; omega, fun p np => ?_⟩⟩
        cases d2 with
        | int i =>
          cases hw
          dsimp only at q2
          cases hz : ints? l with
          | none => rw [hz] at q2; exact q2.elim
          | some ns =>
            rw [hz] at q2
            rw [ints?_is hz] at h2
            have ex := h2.ints
            subst ex
            have hH1 : H1 a = some (.lst (ns.map V.int)) := C1.fh a _ h1
            have hφ1 : a ∉ φ1.flatten := fun hp => by have := C1.pf a hp; rw [h1] at this; cases this
            have hH2 : H2 a = some (.lst (ns.map V.int)) := C2.kp a _ hH1 hφ1 nt_lst
            have hB : B.H0 a = none := R.core.none0 na
            have hF2 : F2 a = none := by
              cases z : F2 a with
              | none => rfl
              | some u =>
                rcases C2.fn a u z with z | z
                · exact absurd rfl (cut_some (show DL.cut F1 (· = a) a = some u from z)).1
                · rw [show H1 a = none from z] at hH1; cases hH1
            have hφ2 : a ∉ φ2.flatten := fun hp => by
              obtain ⟨ψ, e, hψ⟩ := C2.ph
              rw [e, List.flatten_append, List.mem_append] at hp
              rcases hp with hp | hp
              · exact hφ1 hp
              · rw [show H1 a = none from hψ a hp] at hH1; cases hH1
            have npa : p ≠ a := fun z => by rw [z, hH2] at np; cases np
            have CB : Core X.K c B F2 (upd H2 p (.lst [.ref a, .int i])) φ2 S2 := R2.core.lay _ np nt_lst (fun _ z => nomatch z) fun _ _ z => nomatch z
            have nFp : F2 p = none := by
              cases z : F2 p with
              | none => rfl
              | some u => have := R2.core.fh p u z; rw [np] at this; cases this
            have CP := CB.push (q := [p, a]) (o := .tape ns i) (fun b hb => by
              simp only [List.mem_cons, List.not_mem_nil, or_false] at hb
              rcases hb with rfl | rfl
              · exact ⟨nFp, fun hp => R2.core.phi_there b hp np, R2.core.none0 np⟩
              · exact ⟨hF2, hφ2, hB⟩) (by simp [npa]) ⟨p, a, rfl, upd_same, by rw [upd_ne npa.symm]; exact hH2⟩
            refine q2 (.ref p) F2 _ _ CP (.obj (p := [a]) ?_)
            rw [← R2.core.ln, List.getElem?_append_right (Nat.le_refl _), Nat.sub_self]
            rfl
        | _ => exact q2.elim
    | _ => exact ⟨_, F1, φ1, ρ, S1, R1.enter, (RunS.st R1 q1).mono fun d2 S2 F2 H2 φ2 hr2 _ _ RE2 ⟨R2, C2, q2⟩ w hw => q2.elim⟩
end
end DL

namespace DL
open PySem PySem.Spec L2
open PyProof.Rows hiding St

/-! ### a draw from the tape -/
def mDraw : Fn := fun ds S => match ds with
  | [.obj n, .int m] => match S[n]? with
    | some (.tape cells seed) => if 0 < m ∧ m < 1267650600228229401496703205376 then (match cells.dropWhile (· == 0) with
        | [] => .ok (.int (((seed * 48271 + 12345) % 2147483647 / 64) % m)) (S.set n (.tape [] ((seed * 48271 + 12345) % 2147483647)))
        | x :: r => .ok (.int (x % m)) (S.set n (.tape (x / m :: r) seed))) else .bad
    | _ => .bad
  | _ => .bad
section
variable (K : PySem.W.Frag)
abbrev dIx (i : Nat) (k : Int) : TE := tOp (rIxL K) (tVar i) (tC (.int k))
abbrev dLen : TE := tCB (fun xs H Q => ∃ p ys, xs = [V.ref p] ∧ (SqL K H p ys ∨ SqT K H p ys) ∧ Q (.int ys.length) H) (tCons (tVar 2) tNil)
abbrev dGt : TT := tTest (tOp (rI0 fun i j => .bl (decide (j < i))) (dLen K) (tC (.int 0)))
abbrev dInt (t : TE) : TE := tCB (fun xs H Q => (∃ i, xs = [V.int i] ∧ Q (.int i) H) ∨ ∃ k, xs = [V.bl k] ∧ Q (.int (if k then 1 else 0)) H) (tCons t tNil)
abbrev dMod (a b : TE) : TE := tOp (rI (fun _ j => 0 < j) fun i j => .int (i % j)) a b
def tDraw : TS :=
  tSeq (tAsg (dIx K 0 0) (gName 2))
  (tSeq (tWhile (tAnd (dGt K) (tTest (tOp rEq (dIx K 2 0) (tC (.int 0))))) (tDrop (tBM K "list" rPopAt (tVar 2) (tCons (tC (.int 0)) tNil))))
  (tSeq (tIfS (dGt K) (tSeq (tAsg (dIx K 2 0) (gName 3)) (tSeq (tAsg (tOp rDivA (tVar 3) (tVar 1)) (L2.gSub (tVar 2) (tC (.int 0)) rSetL)) (tRet (dMod (dInt (tVar 3)) (tVar 1))))) tNext)
  (tSeq (tAsg (dMod (dInt (tOp (rI0 fun i j => .int (i + j)) (tOp (rI CMul fun i j => .int (i * j)) (dIx K 0 1) (tC (.int 48271))) (tC (.int 12345)))) (tC (.int 2147483647))) (L2.gSub (tVar 0) (tC (.int 1)) rSetL))
  (tRet (dMod (dInt (tOp rDivA (dIx K 0 1) (tC (.int 64)))) (tVar 1))))))
end
theorem ifF {c : Bool} {A B : Prop} (hc : c = false) (h : B) : if c = true then A else B := by subst hc; exact iteF h
theorem ifT {c : Bool} {A B : Prop} (hc : c = true) (h : A) : if c = true then A else B := by subst hc; exact iteT h
theorem at_zero {α : Type} (x : α) (r : List α) : atI (x :: r) (0 : Int) = some x := atI_nat (j := 0) rfl
theorem set_zero {n : Nat} : ixN (n + 1) 0 = some 0 := by
  unfold ixN
  rw [if_pos (by omega), if_pos (by omega)]
  rfl
section
variable {K : PySem.W.Frag} {c : DC} {B : Bs} {F H : Hp} {φ : Phi} {S : List DO} {D : Ends}
/-- the state of the two lists -/
def TapeAt (H : Hp) (a b : Addr) (cells : List Int) (seed : Int) : Prop := H a = some (.lst [.ref b, .int seed]) ∧ H b = some (.lst (cells.map V.int)) ∧ a ≠ b
theorem draw_read {n : Nat} {m : Int} {v : V} (C : Core K c B F H φ S) (hv : IsD K F φ v (.obj n)) (q : FnRun K c B (mDraw [.obj n, .int m] S) D.rt (fun _ _ _ => False)) : tDraw K D [some v, some (.int m), none, none] H := by
  unfold mDraw at q
  dsimp only at q
  cases hs : S[n]? with
  | none => rw [hs] at q; exact q.elim
  | some o =>
    rw [hs] at q
    cases o with
    | ins x fs => exact q.elim
    | tape cells seed =>
      dsimp only at q
      split at q
      case isFalse => exact q.elim
      rename_i hm
      cases hv with
      | @obj a _ p hp =>
        obtain ⟨a', b, e0, h1, h2⟩ := C.ob n _ _ hp hs
        have e1 : a = a' := (List.cons.inj e0).1
        have e2 : p = [b] := (List.cons.inj e0).2
        subst e1 e2
        have hab : a ≠ b := fun e => by
          have nd := C.nd
          have hin := List.mem_of_getElem? hp
          have := (List.pairwise_flatten.mp nd).1 _ hin
          rw [e] at this
          simp at this
        -- a store behind changes of the two lists
        have fin : ∀ (H' : Hp) (cs : List Int) (sd : Int) (r : Int), (∀ x, x ≠ a → x ≠ b → H' x = H x) → H' a = some (.lst [.ref b, .int sd]) → H' b = some (.lst (cs.map V.int)) → FnRun K c B (.ok (.int r) (S.set n (.tape cs sd))) D.rt (fun _ _ _ => False) → D.rt (.int r) H' := fun H' cs sd r k1 k2 k3 k4 => by
          refine k4 (.int r) F H' φ (C.setOb hp hs (fun x hx => ?_) ⟨a, b, rfl, k2, k3⟩) (.int r)
          simp only [List.mem_cons, List.not_mem_nil, or_false, not_or] at hx
          exact k1 x hx.1 hx.2
        refine ⟨_, rfl, a, _, 0, _, rfl, rfl, SqL.of h1, at_zero _ _, ?_⟩
        -- the while
        refine while_by (fun σ H' => ∃ cs : List Int, σ = [some (.ref a), some (.int m), some (.ref b), none] ∧ (∀ x, x ≠ b → H' x = H x) ∧ H' b = some (.lst (cs.map V.int)) ∧ cs.dropWhile (· == 0) = cells.dropWhile (· == 0)) (fun _ H' => match H' b with
          | some (.lst xs) => xs.length
          | _ => 0) ⟨cells, rfl, fun _ _ => rfl, h2, rfl⟩ ?_ ?_
        · rintro σ H' ⟨cs, rfl, k1, k2, k3⟩
          refine ⟨_, rfl, b, _, rfl, .inl (SqL.of k2), _, _, rfl, rfl, _, rfl, ?_⟩
          cases cs with
          | nil =>
            refine ifF (by simp) (iteF ?_)
            -- behind the while: nothing is left
            refine ⟨_, rfl, b, _, rfl, .inl (SqL.of k2), _, _, rfl, rfl, _, rfl, ?_⟩
            refine ifF (by simp) ?_
            have e3 : cells.dropWhile (· == 0) = [] := k3.symm
            rw [e3] at q
            dsimp only at q
            have ka : H' a = some (.lst [.ref b, .int seed]) := by rw [k1 a hab]; exact h1
            refine ⟨_, rfl, a, _, 1, .int seed, rfl, rfl, SqL.of ka, atI_nat (j := 1) rfl, _, _, rfl, rfl, .inr ⟨by decide, by decide⟩, _, _, rfl, rfl, .inl ⟨_, rfl, ?_⟩⟩
            refine ⟨_, _, rfl, rfl, (show (0 : Int) < 2147483647 by decide), _, rfl, a, _, 1, 1, rfl, rfl, ka, rfl, ?_⟩
            refine ⟨_, rfl, a, _, 1, .int ((seed * 48271 + 12345) % 2147483647), rfl, rfl, SqL.of upd_same, atI_nat (j := 1) rfl, .inl ⟨_, _, rfl, rfl, cdivw (by decide) (by decide), .inl ⟨_, rfl, _, rfl, _, _, rfl, rfl, hm.1, ?_⟩⟩⟩
            exact fin _ [] _ _ (fun x h1 h2 => by rw [upd_ne h1]; exact k1 x h2) upd_same (by rw [upd_ne hab.symm]; exact k2) q
          | cons x r =>
            refine ifT (by first | (simp; done) | (simp; omega)) ?_
            refine ⟨_, rfl, b, _, 0, .int x, rfl, rfl, SqL.of k2, at_zero _ _, rfl, _, rfl, ?_⟩
            by_cases hx : x = 0
            · subst hx
              refine ifT (by simp) ?_
              refine ⟨_, rfl, .inl ⟨rfl, _, SqL.of k2⟩, b, _, 0, 0, .int 0, rfl, rfl, k2, by decide, by decide, PySem.StrLaws.seqIndex_nonneg (by decide) (by rw [List.length_map, List.length_cons]; omega), rfl, ⟨r, rfl, fun y hy => by rw [upd_ne hy]; exact k1 y hy, upd_same, ?_⟩, ?_⟩
              · rw [← k3]; rfl
              · rw [upd_same, k2]
                simp
            · refine ifF (by simp [hx]) ?_
              refine ⟨_, rfl, b, _, rfl, .inl (SqL.of k2), _, _, rfl, rfl, _, rfl, ?_⟩
              refine ifT (by first | (simp; done) | (simp; omega)) ?_
              have e3 : cells.dropWhile (· == 0) = x :: r := by
                rw [← k3, List.dropWhile_cons_of_neg (by simp [hx])]
              rw [e3] at q
              dsimp only at q
              refine ⟨_, rfl, b, _, 0, .int x, rfl, rfl, SqL.of k2, at_zero _ _, ?_⟩
              refine ⟨_, rfl, _, rfl, .inl ⟨_, _, rfl, rfl, cdivw hm.1 hm.2, _, rfl, b, _, 0, 0, rfl, rfl, k2, ?_, ?_⟩⟩
              · rw [List.length_map, List.length_cons]; exact set_zero
              · refine ⟨_, rfl, .inl ⟨_, rfl, _, rfl, _, _, rfl, rfl, hm.1, ?_⟩⟩
                exact fin _ (x / m :: r) _ _ (fun y h1 h2 => by rw [upd_ne h2]; exact k1 y h2) (by rw [upd_ne hab, k1 a hab]; exact h1) upd_same q
        · intro σ H Q Q' hQ h
          obtain ⟨x, h1, p, ys, e1, h2, i, j, e2, e3, k, e4, h3⟩ := h
          refine ⟨x, h1, p, ys, e1, h2, i, j, e2, e3, k, e4, ?_⟩
          split at h3
          · rename_i hk
            rw [if_pos hk]
            obtain ⟨y, g1, p2, xs, i2, v2, g3, g4, g5, g6, g7, k2, g8, g9⟩ := h3
            exact ⟨y, g1, p2, xs, i2, v2, g3, g4, g5, g6, g7, k2, g8, hQ _ _ g9⟩
          · rename_i hk
            rw [if_neg hk]
            exact hQ _ _ h3
end
/-- the def of that body keeps the promise -/
theorem ok_draw {P : Program} {w : World} {K : PySem.W.Frag} {mg : Str → Option Value} {base : Heap} {c : DC} {x : Str} {st : Stmt} {k : Nat} (D : DefAt K mg x st ["tape", "many"]) (S : FnScope ["tape", "many", "cells", "number"] ["tape", "many"] (defScope st))
    (hb : ∀ (f : Addr) (cdv : Value) (A : Around) (outer : List Env) (s : Shared) (H : Hp) (E : XK), Go (cxF P w K mg base ["tape", "many", "cells", "number"] x st f cdv A outer s H E) (wE E) k → PSs (cxF P w K mg base ["tape", "many", "cells", "number"] x st f cdv A outer s H E) (defBody st) (tDraw K)) :
    FnAt P w K mg base c x (k + 1) 2 mDraw := by
  obtain ⟨f, fd, F, hm, hb'⟩ := D.ex
  refine ⟨f, fd, _, F.okX S (fun vs H Q E h => ?_) (fun cdv A outer s H vs Q E hr h => ?_), hm, F.kp, hb'⟩
  · obtain ⟨F, φ, S, ds, _, hv, hl, _⟩ := h
    exact hv.length.trans hl
  · refine ⟨_, hb f cdv A outer s H E ⟨rfl, S.nd, hr, takes_of rfl rfl rfl rfl, passes_of rfl, rfl, rfl⟩, ?_⟩
    obtain ⟨F, φ, S', ds, C, hv, hl, q⟩ := h
    have bad : ∀ ds : List DV, (∀ n m, ds ≠ [.obj n, .int m]) → mDraw ds S' = .bad := fun ds h => by
      unfold mDraw
      split
      · exact absurd rfl (h _ _)
      · rfl
    cases hv with
    | nil => rw [bad [] (fun _ _ z => by cases z)] at q; exact q.elim
    | @cons v1 vs1 d1 ds1 h1 r1 =>
      cases r1 with
      | nil => rw [bad [d1] (fun _ _ z => by cases z)] at q; exact q.elim
      | @cons v2 vs2 d2 ds2 h2 r2 =>
        cases r2 with
        | cons h3 r3 => rw [bad _ (fun _ _ z => by cases z)] at q; exact q.elim
        | nil =>
          cases d1 with
          | obj n =>
            cases d2 with
            | int m =>
              cases h2
              refine draw_read (B := ⟨H, F, φ⟩) C h1 ?_
              cases hz : mDraw [.obj n, .int m] S' with
              | ok d S2 => rw [hz] at q; exact q
              | exc y fs S2 =>
                exfalso
                unfold mDraw at hz
                dsimp only at hz
                split at hz
                · split at hz
                  · split at hz <;> cases hz
                  · cases hz
                · cases hz
              | bad => rw [hz] at q; exact q
            | _ => rw [bad _ (fun _ _ z => by cases z)] at q; exact q.elim
          | _ => rw [bad _ (fun _ _ z => by cases z)] at q; exact q.elim
end DL

namespace DL
open PySem PySem.Spec L2
open PyProof.Rows hiding St

/-! ### a def that calls itself; the head's facts; the end -/
/-- how many turns a while may take -/
def FU : Nat := 1000000000000
section
variable {P : Program} {w : World} {K : PySem.W.Frag} {mg : Str → Option Value} {base : Heap} {c : DC}
def mBad : Fn := fun _ _ => .bad
theorem fn_bad {x : Str} {st : Stmt} {ps : List Str} {k n : Nat} (D : DefAt K mg x st ps) : FnAt P w K mg base c x k n mBad := by
  obtain ⟨f, fd, F, hm, hb'⟩ := D.ex
  exact ⟨f, fd, ps, ⟨fun vs H Q E ⟨_, _, _, _, _, _, _, q⟩ => q.elim, fun A outer s H args us vs Q E _ _ _ _ ⟨_, _, _, _, _, _, _, q⟩ => q.elim⟩, hm, F.kp, hb'⟩
theorem def_of {h : Heap} {fa : List He.Fa} {fn : List He.DefD} {x : Str} {st : Stmt} {ps : List Str} (X : K.In h) (G : h.Ns mainGlobals mg) (cs : He.SaysD fa fn K) (i j : Nat)
    (hd : fn[i]? = some ⟨(x, none), x, x, defArgs st, defBody st, defScope st, [], []⟩) (hf : fa[j]? = some (.glo x))
    (hb : ∀ (kV doc pm : Value) (an : Option Addr) (cdv ct : Value) (us : List Value), us.length = ps.length → bindArgs (PySem.W.fnOf x x (defArgs st) (defBody st) (defScope st) .none kV doc pm an cdv ct) ⟨us, []⟩ = pure (ps.zip us)) : DefAt K mg x st ps := by
  obtain ⟨fd, FD⟩ := cs.def_ i hd
  have hm := He.glo_ok X G (cs.fact j hf)
  obtain ⟨oc, od, dV, kV, doc, pm, an, cdv, ct, osl, e, lk, hcd, hD, hK⟩ := FD.ex
  have e1 : dV = .none := by
    rcases hD with ⟨_, z⟩ | ⟨z, _⟩
    · exact z
    · exact absurd rfl z
  subst e1
  exact ⟨_, fd, ⟨⟨oc, od, kV, doc, pm, an, cdv, ct, osl, e, lk, hcd⟩, FD.kp⟩, hm, FD.bindsN hb⟩
theorem free_of {h : Heap} {fa : List He.Fa} {fn : List He.DefD} {x : Str} (X : K.In h) (G : h.Ns mainGlobals mg) (cs : He.SaysD fa fn K) (j : Nat) (hf : fa[j]? = some (.free x)) : mg x = none := He.free_ok X G (cs.fact j hf)
/-- the law's def -/
structure LawAt (P : Program) (w : World) (K : PySem.W.Frag) (mg : Str → Option Value) (c : DC) (f : Addr) (k : Nat) (m : Fn) (x : Str) : Prop where
  ex : ∃ fd : FuncData, (∀ (s : Shared) (u : Value), BindsTo s fd ⟨[u], []⟩ [(x, u)]) ∧ ∀ base : Heap, K.In base → base.Ns mainGlobals mg → FnOk P w K mg base (L2.CX P w) k f fd [x] (spD K c 1 m)
theorem law_at {st : Stmt} {N : List Str} {k : Nat} {sv : Sv} {f : Addr} {x : Str} (hfa : mg ("law" : Str) = some (.ref f)) (D : DefAt K mg "law" st [x]) (S : FnScope N [x] (defScope st))
    (hbd : ∀ (kV doc pm : Value) (an : Option Addr) (cdv ct : Value) (u : Value), bindArgs (PySem.W.fnOf "law" "law" (defArgs st) (defBody st) (defScope st) .none kV doc pm an cdv ct) ⟨[u], []⟩ = pure [(x, u)])
    (hb : ∀ (base : Heap), K.In base → base.Ns mainGlobals mg → ∀ (f : Addr) (cdv : Value) (A : Around) (outer : List Env) (s : Shared) (H : Hp) (E : XK), Go (cxF P w K mg base N "law" st f cdv A outer s H E) (wE E) k → PSs (cxF P w K mg base N "law" st f cdv A outer s H E) (defBody st) (tS K c (wE E) sv)) :
    LawAt P w K mg c f (k + 1) (mkFn N.length sv) x := by
  obtain ⟨f', fd, F, hm, hb'⟩ := D.ex
  have e := hfa.symm.trans hm
  cases e
  refine ⟨fd, fun s u => ?_, fun base hK hB => ok_def F S (hb base hK hB f)⟩
  obtain ⟨oc, od, kV, doc, pm, an, cdv, ct, osl, rfl, lk, hcd⟩ := F.ex
  exact .of_eq (hbd kV doc pm an cdv ct u)
end
theorem walk_ofW {l : PySem.W.OpenLaw} {n k : Nat} {q : Program} {loose : List Str} {XP : (Str → Option Value) → Heap → Prop} {YP : World → Heap → Prop} {d : DefRec} {c : PySem.W.Frag → DC} {m : Fn} {x : Str}
    (hn : l.most = some n) (hn2 : n ≤ sizeLine) (hdf : d.params.defaults = []) (hr : Room k callerA) (ht : ∀ K, (c K).tb = [])
    (F : ∀ (w : World) (mg : Str → Option Value) (fa : Addr) (h : Heap), YP w h → h.Ns mainGlobals mg → mg d.name = some (.ref fa) → ∃ K : PySem.W.Frag, K.In h ∧ LawAt l.prog w K mg (c K) fa k m x)
    (hm : ∀ ns : List Int, ns.length ≤ n → ∃ S, m [.scr ns] [] = .ok (.bl true) S) :
    PySem.W.WalkO q loose XP YP l.row.toRowW d [] (fun f vs => PySem.call f vs) := by
  refine Att.attach_call hn hdf fun w s₀ s₁ mg mb fa o pm cd doc a vs ns G Y ho hd hcd hmg hobj hints hlen hg => ?_
  obtain ⟨K, KX, fd, hb, hF⟩ := F w mg fa _ Y G.T.g hmg
  exact law_call KX G.T.g G.T.b G.T.builtins G.T.nolimit hg hobj hints (Nat.le_trans hlen hn2) hr hF hb (fun H hO hS => law_sp (ht K) hO hS (hm ns hlen)) fun H e s' z => cx_no z
end DL

namespace DL
open PySem PySem.Spec L2
open PyProof.Rows hiding St

/-! ### the same, with its values made plain at once (for runs in the kernel): by raw recursors -/
section
variable {α β : Type}
def rI (i : Int) (k : Int → α) : α := Int.rec (motive := fun _ => α) (fun n => Nat.rec (motive := fun _ => α) (k (.ofNat 0)) (fun m _ => k (.ofNat m.succ)) n) (fun n => Nat.rec (motive := fun _ => α) (k (.negSucc 0)) (fun m _ => k (.negSucc m.succ)) n) i
theorem rI_eq (i : Int) (k : Int → α) : rI i k = k i := by cases i <;> rename_i n <;> cases n <;> rfl
def rB (b : Bool) (k : Bool → α) : α := Bool.rec (motive := fun _ => α) (k false) (k true) b
theorem rB_eq (b : Bool) (k : Bool → α) : rB b k = k b := by cases b <;> rfl
def rK (x : Key) (k : Key → α) : α := Sum.rec (motive := fun _ => α) (fun i => rI i fun i => k (.inl i)) (fun s => k (.inr s)) x
theorem rK_eq (x : Key) (k : Key → α) : rK x k = k x := by
  cases x with
  | inl i => exact rI_eq i fun i => k (.inl i)
  | inr s => rfl
def rD (d : DV) : (DV → α) → α := DV.rec (motive_1 := fun _ => (DV → α) → α) (motive_2 := fun _ => (List DV → α) → α) (motive_3 := fun _ => (List (Key × DV) → α) → α) (motive_4 := fun _ => (List (List Key × DV) → α) → α) (motive_5 := fun _ => (Key × DV → α) → α) (motive_6 := fun _ => (List Key × DV → α) → α)
  (fun k => k .non) (fun b k => rB b fun b => k (.bl b)) (fun i k => rI i fun i => k (.int i)) (fun x k => k (.str x)) (fun l h k => h fun l => k (.tup l)) (fun l h k => h fun l => k (.lst l)) (fun l k => k (.scr l)) (fun l h k => h fun l => k (.dk l)) (fun l h k => h fun l => k (.dt l)) (fun n k => k (.obj n))
  (fun k => k []) (fun d r hd hr k => hd fun d => hr fun r => k (d :: r))
  (fun k => k []) (fun d r hd hr k => hd fun d => hr fun r => k (d :: r))
  (fun k => k []) (fun d r hd hr k => hd fun d => hr fun r => k (d :: r))
  (fun x d hd k => rK x fun x => hd fun d => k (x, d))
  (fun x d hd k => hd fun d => k (x, d)) d
def rDl (d : List DV) : (List DV → α) → α := DV.rec_1 (motive_1 := fun _ => (DV → α) → α) (motive_2 := fun _ => (List DV → α) → α) (motive_3 := fun _ => (List (Key × DV) → α) → α) (motive_4 := fun _ => (List (List Key × DV) → α) → α) (motive_5 := fun _ => (Key × DV → α) → α) (motive_6 := fun _ => (List Key × DV → α) → α)
  (fun k => k .non) (fun b k => rB b fun b => k (.bl b)) (fun i k => rI i fun i => k (.int i)) (fun x k => k (.str x)) (fun l h k => h fun l => k (.tup l)) (fun l h k => h fun l => k (.lst l)) (fun l k => k (.scr l)) (fun l h k => h fun l => k (.dk l)) (fun l h k => h fun l => k (.dt l)) (fun n k => k (.obj n))
  (fun k => k []) (fun d r hd hr k => hd fun d => hr fun r => k (d :: r))
  (fun k => k []) (fun d r hd hr k => hd fun d => hr fun r => k (d :: r))
  (fun k => k []) (fun d r hd hr k => hd fun d => hr fun r => k (d :: r))
  (fun x d hd k => rK x fun x => hd fun d => k (x, d))
  (fun x d hd k => hd fun d => k (x, d)) d
def rDk (d : List (Key × DV)) : (List (Key × DV) → α) → α := DV.rec_2 (motive_1 := fun _ => (DV → α) → α) (motive_2 := fun _ => (List DV → α) → α) (motive_3 := fun _ => (List (Key × DV) → α) → α) (motive_4 := fun _ => (List (List Key × DV) → α) → α) (motive_5 := fun _ => (Key × DV → α) → α) (motive_6 := fun _ => (List Key × DV → α) → α)
  (fun k => k .non) (fun b k => rB b fun b => k (.bl b)) (fun i k => rI i fun i => k (.int i)) (fun x k => k (.str x)) (fun l h k => h fun l => k (.tup l)) (fun l h k => h fun l => k (.lst l)) (fun l k => k (.scr l)) (fun l h k => h fun l => k (.dk l)) (fun l h k => h fun l => k (.dt l)) (fun n k => k (.obj n))
  (fun k => k []) (fun d r hd hr k => hd fun d => hr fun r => k (d :: r))
  (fun k => k []) (fun d r hd hr k => hd fun d => hr fun r => k (d :: r))
  (fun k => k []) (fun d r hd hr k => hd fun d => hr fun r => k (d :: r))
  (fun x d hd k => rK x fun x => hd fun d => k (x, d))
  (fun x d hd k => hd fun d => k (x, d)) d
def rDt (d : List (List Key × DV)) : (List (List Key × DV) → α) → α := DV.rec_3 (motive_1 := fun _ => (DV → α) → α) (motive_2 := fun _ => (List DV → α) → α) (motive_3 := fun _ => (List (Key × DV) → α) → α) (motive_4 := fun _ => (List (List Key × DV) → α) → α) (motive_5 := fun _ => (Key × DV → α) → α) (motive_6 := fun _ => (List Key × DV → α) → α)
  (fun k => k .non) (fun b k => rB b fun b => k (.bl b)) (fun i k => rI i fun i => k (.int i)) (fun x k => k (.str x)) (fun l h k => h fun l => k (.tup l)) (fun l h k => h fun l => k (.lst l)) (fun l k => k (.scr l)) (fun l h k => h fun l => k (.dk l)) (fun l h k => h fun l => k (.dt l)) (fun n k => k (.obj n))
  (fun k => k []) (fun d r hd hr k => hd fun d => hr fun r => k (d :: r))
  (fun k => k []) (fun d r hd hr k => hd fun d => hr fun r => k (d :: r))
  (fun k => k []) (fun d r hd hr k => hd fun d => hr fun r => k (d :: r))
  (fun x d hd k => rK x fun x => hd fun d => k (x, d))
  (fun x d hd k => hd fun d => k (x, d)) d
def rDp (d : Key × DV) : (Key × DV → α) → α := DV.rec_4 (motive_1 := fun _ => (DV → α) → α) (motive_2 := fun _ => (List DV → α) → α) (motive_3 := fun _ => (List (Key × DV) → α) → α) (motive_4 := fun _ => (List (List Key × DV) → α) → α) (motive_5 := fun _ => (Key × DV → α) → α) (motive_6 := fun _ => (List Key × DV → α) → α)
  (fun k => k .non) (fun b k => rB b fun b => k (.bl b)) (fun i k => rI i fun i => k (.int i)) (fun x k => k (.str x)) (fun l h k => h fun l => k (.tup l)) (fun l h k => h fun l => k (.lst l)) (fun l k => k (.scr l)) (fun l h k => h fun l => k (.dk l)) (fun l h k => h fun l => k (.dt l)) (fun n k => k (.obj n))
  (fun k => k []) (fun d r hd hr k => hd fun d => hr fun r => k (d :: r))
  (fun k => k []) (fun d r hd hr k => hd fun d => hr fun r => k (d :: r))
  (fun k => k []) (fun d r hd hr k => hd fun d => hr fun r => k (d :: r))
  (fun x d hd k => rK x fun x => hd fun d => k (x, d))
  (fun x d hd k => hd fun d => k (x, d)) d
def rDq (d : List Key × DV) : (List Key × DV → α) → α := DV.rec_5 (motive_1 := fun _ => (DV → α) → α) (motive_2 := fun _ => (List DV → α) → α) (motive_3 := fun _ => (List (Key × DV) → α) → α) (motive_4 := fun _ => (List (List Key × DV) → α) → α) (motive_5 := fun _ => (Key × DV → α) → α) (motive_6 := fun _ => (List Key × DV → α) → α)
  (fun k => k .non) (fun b k => rB b fun b => k (.bl b)) (fun i k => rI i fun i => k (.int i)) (fun x k => k (.str x)) (fun l h k => h fun l => k (.tup l)) (fun l h k => h fun l => k (.lst l)) (fun l k => k (.scr l)) (fun l h k => h fun l => k (.dk l)) (fun l h k => h fun l => k (.dt l)) (fun n k => k (.obj n))
  (fun k => k []) (fun d r hd hr k => hd fun d => hr fun r => k (d :: r))
  (fun k => k []) (fun d r hd hr k => hd fun d => hr fun r => k (d :: r))
  (fun k => k []) (fun d r hd hr k => hd fun d => hr fun r => k (d :: r))
  (fun x d hd k => rK x fun x => hd fun d => k (x, d))
  (fun x d hd k => hd fun d => k (x, d)) d
theorem rD_eq (d : DV) : ∀ k : DV → α, rD d k = k d := by
  refine DV.rec (motive_1 := fun d => ∀ k : DV → α, rD d k = k d) (motive_2 := fun l => ∀ k : List DV → α, rDl l k = k l) (motive_3 := fun l => ∀ k : List (Key × DV) → α, rDk l k = k l) (motive_4 := fun l => ∀ k : List (List Key × DV) → α, rDt l k = k l) (motive_5 := fun l => ∀ k : (Key × DV) → α, rDp l k = k l) (motive_6 := fun l => ∀ k : (List Key × DV) → α, rDq l k = k l)
    (fun k => rfl) (fun b k => rB_eq b fun b => k (.bl b)) (fun i k => rI_eq i fun i => k (.int i)) (fun x k => rfl) (fun l h k => h fun l => k (.tup l)) (fun l h k => h fun l => k (.lst l)) (fun l k => rfl) (fun l h k => h fun l => k (.dk l)) (fun l h k => h fun l => k (.dt l)) (fun n k => rfl)
    (fun k => rfl) (fun d r hd hr k => (hd fun d => rDl r fun r => k (d :: r)).trans (hr fun r => k (d :: r)))
    (fun k => rfl) (fun d r hd hr k => (hd fun d => rDk r fun r => k (d :: r)).trans (hr fun r => k (d :: r)))
    (fun k => rfl) (fun d r hd hr k => (hd fun d => rDt r fun r => k (d :: r)).trans (hr fun r => k (d :: r)))
    (fun x d hd k => (rK_eq x fun x => rD d fun d => k (x, d)).trans (hd fun d => k (x, d))) (fun x d hd k => hd fun d => k (x, d)) d
def rL (f : β → (β → α) → α) (l : List β) : (List β → α) → α := List.rec (motive := fun _ => (List β → α) → α) (fun k => k []) (fun x r ih k => f x fun x => ih fun r => k (x :: r)) l
theorem rL_eq {f : β → (β → α) → α} (h : ∀ x k, f x k = k x) (l : List β) : ∀ k : List β → α, rL f l k = k l := by
  induction l with
  | nil => exact fun k => rfl
  | cons x r ih => exact fun k => (h x fun x => rL f r fun r => k (x :: r)).trans (ih fun r => k (x :: r))
def rP (l : List β) : (List β → α) → α := List.rec (motive := fun _ => (List β → α) → α) (fun k => k []) (fun x r ih k => ih fun r => k (x :: r)) l
theorem rP_eq (l : List β) : ∀ k : List β → α, rP l k = k l := by
  induction l with
  | nil => exact fun k => rfl
  | cons x r ih => exact fun k => ih fun r => k (x :: r)
def rKd (p : Key × DV) (k : Key × DV → α) : α := Prod.rec (motive := fun _ => α) (fun x d => rK x fun x => rD d fun d => k (x, d)) p
theorem rKd_eq (p : Key × DV) (k : Key × DV → α) : rKd p k = k p := (rK_eq p.1 fun x => rD p.2 fun d => k (x, d)).trans (rD_eq p.2 fun d => k (p.1, d))
def rSl (s : SL) (k : SL → α) : α := SL.rec (motive := fun _ => α) (k .emp) (fun d => rD d fun d => k (.val d)) (fun l => rL rD l fun l => k (.ol l)) (fun l => rL rKd l fun l => k (.ok l)) (fun l => k (.ot l)) s
theorem rSl_eq (s : SL) (k : SL → α) : rSl s k = k s := by
  cases s with
  | emp => rfl
  | val d => exact rD_eq d fun d => k (.val d)
  | ol l => exact rL_eq rD_eq l fun l => k (.ol l)
  | ok l => exact rL_eq rKd_eq l fun l => k (.ok l)
  | ot l => rfl
def rAt (i : Nat) (ρ : List SL) (k : List SL → α) : α := List.rec (motive := fun _ => Nat → (List SL → α) → α) (fun _ k => k []) (fun s r ih i k => Nat.rec (motive := fun _ => α) (rSl s fun s => rP r fun r => k (s :: r)) (fun j _ => ih j fun r => k (s :: r)) i) ρ i k
theorem rAt_eq (ρ : List SL) : ∀ (i : Nat) (k : List SL → α), rAt i ρ k = k ρ := by
  induction ρ with
  | nil => exact fun _ _ => rfl
  | cons s r ih =>
    intro i k
    cases i with
    | zero => exact (rSl_eq s fun s => rP r fun r => k (s :: r)).trans (rP_eq r fun r => k (s :: r))
    | succ j => exact ih j fun r => k (s :: r)
end
def bindR {α β : Type} (r : DR α) (f : α → List DO → DR β) : DR β := DR.rec (motive := fun _ => DR β) f (fun x fs S => .exc x fs S) .bad r
theorem bindR_eq {α β : Type} (r : DR α) (f : α → List DO → DR β) : bindR r f = r.bind f := by cases r <;> rfl
def stR {α : Type} (r : DR α) (ρ : List SL) (f : α → List DO → DF) : DF := DR.rec (motive := fun _ => DF) f (fun x fs S => .exc x fs ρ S) .bad r
theorem stR_eq {α : Type} (r : DR α) (ρ : List SL) (f : α → List DO → DF) : stR r ρ f = r.st ρ f := by cases r <;> rfl
def optR' {α : Type} (o : Option α) (S : List DO) : DR α := Option.rec (motive := fun _ => DR α) .bad (fun a => .ok a S) o
theorem optR_eq {α : Type} (o : Option α) (S : List DO) : optR' o S = optR o S := by cases o <;> rfl
def setF {α : Type} (ρ : List SL) : Nat → SL → (List SL → α) → α := List.rec (motive := fun _ => Nat → SL → (List SL → α) → α) (fun _ _ k => k []) (fun s r ih i v k => Nat.rec (motive := fun _ => α) (k (v :: r)) (fun j _ => ih j v fun r => k (s :: r)) i) ρ
theorem setF_eq {α : Type} (ρ : List SL) : ∀ (i : Nat) (v : SL) (k : List SL → α), setF ρ i v k = k (ρ.set i v) := by
  induction ρ with
  | nil => exact fun _ _ _ => rfl
  | cons s r ih =>
    intro i v k
    cases i with
    | zero => rfl
    | succ j => exact ih j v fun r => k (s :: r)
def sSetF (i : Nat) (e : Ev) : Sv := fun ρ S => stR (e ρ S) ρ fun d S1 => rD d fun d => setF ρ i (.val d) fun ρ' => .nx ρ' S1
theorem sSetF_eq (i : Nat) (e : Ev) : sSetF i e = sSet i e := by
  funext ρ S
  unfold sSetF sSet
  rw [stR_eq]
  congr 1
  funext d S1
  rw [rD_eq, setF_eq]
/-- the statement's slot i, plain -/
def sF (i : Nat) (s : Sv) : Sv := fun ρ S => DF.rec (motive := fun _ => DF) (fun ρ' S' => rAt i ρ' fun ρ' => .nx ρ' S') (fun d S' => .rt d S') (fun ρ S' => .bk ρ S') (fun ρ S' => .ct ρ S') (fun x fs ρ S' => .exc x fs ρ S') .bad (s ρ S)
theorem sF_eq (i : Nat) (s : Sv) : sF i s = s := by
  funext ρ S
  unfold sF
  cases s ρ S <;> first | rfl | exact rAt_eq _ i fun ρ' => DF.nx ρ' _
def sFr (s : Sv) : Sv := fun ρ S => DF.rec (motive := fun _ => DF) (fun ρ S' => .nx ρ S') (fun d S' => rD d fun d => .rt d S') (fun ρ S' => .bk ρ S') (fun ρ S' => .ct ρ S') (fun x fs ρ S' => .exc x fs ρ S') .bad (s ρ S)
theorem sFr_eq (s : Sv) : sFr s = s := by
  funext ρ S
  unfold sFr
  cases s ρ S <;> first | rfl | exact rD_eq _ fun d => DF.rt d _
def frF (m : Fn) : Fn := fun ds S => rL rD ds fun ds => m ds S
theorem frF_eq (m : Fn) : frF m = m := by
  funext ds S
  exact rL_eq rD_eq ds fun ds => m ds S

/-! ### slots, numbers -/
def nthF (l : List SL) : Nat → SL := List.rec (motive := fun _ => Nat → SL) (fun _ => SL.emp) (fun x _ ih i => Nat.rec (motive := fun _ => SL) x (fun j _ => ih j) i) l
theorem nthF_eq (l : List SL) : ∀ i, nthF l i = (l[i]?).getD .emp := by
  induction l with
  | nil => exact fun _ => rfl
  | cons x r ih =>
    intro i
    cases i with
    | zero => rfl
    | succ j => exact ih j
def eVarF (i : Nat) : Ev := fun ε S => SL.rec (motive := fun _ => DR DV) DR.bad (fun d => DR.ok d S) (fun _ => .bad) (fun _ => .bad) (fun _ => .bad) (nthF ε i)
theorem eVarF_eq (i : Nat) : eVarF i = eVar i := by
  funext ε S
  unfold eVarF eVar
  rw [nthF_eq]
  cases ε[i]? with
  | none => rfl
  | some s => cases s <;> rfl
def asI {α : Type} (d : DV) (k : Int → α) (e : α) : α := DV.rec (motive_1 := fun _ => α) (motive_2 := fun _ => PUnit) (motive_3 := fun _ => PUnit) (motive_4 := fun _ => PUnit) (motive_5 := fun _ => PUnit) (motive_6 := fun _ => PUnit)
  e (fun _ => e) k (fun _ => e) (fun _ _ => e) (fun _ _ => e) (fun _ => e) (fun _ _ => e) (fun _ _ => e) (fun _ => e) ⟨⟩ (fun _ _ _ _ => ⟨⟩) ⟨⟩ (fun _ _ _ _ => ⟨⟩) ⟨⟩ (fun _ _ _ _ => ⟨⟩) (fun _ _ _ => ⟨⟩) (fun _ _ _ => ⟨⟩) d
def iLt (i j : Int) : Bool := Int.rec (motive := fun _ => Bool) (fun m => Int.rec (motive := fun _ => Bool) (fun n => Nat.blt m n) (fun _ => false) j) (fun m => Int.rec (motive := fun _ => Bool) (fun _ => true) (fun n => Nat.blt n m) j) i
def iLe (i j : Int) : Bool := Int.rec (motive := fun _ => Bool) (fun m => Int.rec (motive := fun _ => Bool) (fun n => Nat.ble m n) (fun _ => false) j) (fun m => Int.rec (motive := fun _ => Bool) (fun _ => true) (fun n => Nat.ble n m) j) i
def iEq (i j : Int) : Bool := Int.rec (motive := fun _ => Bool) (fun m => Int.rec (motive := fun _ => Bool) (fun n => Nat.beq m n) (fun _ => false) j) (fun m => Int.rec (motive := fun _ => Bool) (fun _ => false) (fun n => Nat.beq m n) j) i
theorem iLt_eq (i j : Int) : iLt i j = decide (i < j) := by
  cases i with
  | ofNat m =>
    cases j with
    | ofNat n =>
      show Nat.blt m n = decide ((m : Int) < (n : Int))
      rw [Bool.eq_iff_iff, Nat.blt_eq, decide_eq_true_iff]; omega
    | negSucc n =>
      show false = decide ((m : Int) < Int.negSucc n)
      rw [Int.negSucc_eq]
      exact (decide_eq_false (by omega)).symm
  | negSucc m =>
    cases j with
    | ofNat n =>
      show true = decide (Int.negSucc m < (n : Int))
      rw [Int.negSucc_eq]
      exact (decide_eq_true (by omega)).symm
    | negSucc n =>
      show Nat.blt n m = decide (Int.negSucc m < Int.negSucc n)
      rw [Int.negSucc_eq, Int.negSucc_eq, Bool.eq_iff_iff, Nat.blt_eq, decide_eq_true_iff]; omega
theorem iLe_eq (i j : Int) : iLe i j = decide (i ≤ j) := by
  cases i with
  | ofNat m =>
    cases j with
    | ofNat n =>
      show Nat.ble m n = decide ((m : Int) ≤ (n : Int))
      rw [Bool.eq_iff_iff, Nat.ble_eq, decide_eq_true_iff]; omega
    | negSucc n =>
      show false = decide ((m : Int) ≤ Int.negSucc n)
      rw [Int.negSucc_eq]
      exact (decide_eq_false (by omega)).symm
  | negSucc m =>
    cases j with
    | ofNat n =>
      show true = decide (Int.negSucc m ≤ (n : Int))
      rw [Int.negSucc_eq]
      exact (decide_eq_true (by omega)).symm
    | negSucc n =>
      show Nat.ble n m = decide (Int.negSucc m ≤ Int.negSucc n)
      rw [Int.negSucc_eq, Int.negSucc_eq, Bool.eq_iff_iff, Nat.ble_eq, decide_eq_true_iff]; omega
theorem iEq_eq (i j : Int) : iEq i j = decide (i = j) := by
  cases i with
  | ofNat m =>
    cases j with
    | ofNat n =>
      show Nat.beq m n = decide ((m : Int) = (n : Int))
      rw [Bool.eq_iff_iff, Nat.beq_eq, decide_eq_true_iff]; omega
    | negSucc n =>
      show false = decide ((m : Int) = Int.negSucc n)
      rw [Int.negSucc_eq]
      exact (decide_eq_false (by omega)).symm
  | negSucc m =>
    cases j with
    | ofNat n =>
      show false = decide (Int.negSucc m = (n : Int))
      rw [Int.negSucc_eq]
      exact (decide_eq_false (by omega)).symm
    | negSucc n =>
      show Nat.beq m n = decide (Int.negSucc m = Int.negSucc n)
      rw [Int.negSucc_eq, Int.negSucc_eq, Bool.eq_iff_iff, Nat.beq_eq, decide_eq_true_iff]; omega
/-- a comparison's fast road -/
structure CmpF (g : DV → DV → Option DV) (o : Int → Int → Bool) : Prop where
  eq : ∀ i j, g (.int i) (.int j) = some (.bl (o i j))
theorem cmpLt : CmpF gLt iLt := ⟨fun i j => by rw [iLt_eq]; rfl⟩
theorem cmpLe : CmpF gLe iLe := ⟨fun i j => by rw [iLe_eq]; rfl⟩
theorem cmpGt : CmpF gGt fun i j => iLt j i := ⟨fun i j => by rw [iLt_eq]; rfl⟩
theorem cmpGe : CmpF gGe fun i j => iLe j i := ⟨fun i j => by rw [iLe_eq]; rfl⟩
theorem cmpEq : CmpF gEq iEq := ⟨fun i j => by rw [iEq_eq]; rfl⟩
theorem cmpNe : CmpF gNe fun i j => !(iEq i j) := ⟨fun i j => by show _ = some (DV.bl (!(iEq i j))); rw [iEq_eq]; rfl⟩
def cmpR (g : DV → DV → Option DV) (x y : DV) (S : List DO) : DR Bool := match g x y with
  | some (.bl k) => .ok k S
  | _ => .bad
def tCmpF (g : DV → DV → Option DV) (o : Int → Int → Bool) (a b : Ev) : Et := fun ε S => bindR (a ε S) fun x S1 => bindR (b ε S1) fun y S2 => asI x (fun i => asI y (fun j => .ok (o i j) S2) (cmpR g x y S2)) (cmpR g x y S2)
theorem tCmpF_eq {g : DV → DV → Option DV} {o : Int → Int → Bool} (h : CmpF g o) (a b : Ev) : tCmpF g o a b = tCmpB g a b := by
  funext ε S
  unfold tCmpF tCmpB
  rw [bindR_eq]
  congr 1
  funext x S1
  rw [bindR_eq]
  congr 1
  funext y S2
  cases x <;> first | rfl | (cases y <;> first | rfl | (show DR.ok _ _ = _; rw [h.eq]))
def eCmpF (g : DV → DV → Option DV) (o : Int → Int → Bool) (a b : Ev) : Ev := fun ε S => bindR (a ε S) fun x S1 => bindR (b ε S1) fun y S2 => asI x (fun i => asI y (fun j => .ok (.bl (o i j)) S2) (optR (g x y) S2)) (optR (g x y) S2)
theorem eCmpF_eq {g : DV → DV → Option DV} {o : Int → Int → Bool} (h : CmpF g o) (a b : Ev) : eCmpF g o a b = eBin g a b := by
  funext ε S
  unfold eCmpF eBin
  rw [bindR_eq]
  congr 1
  funext x S1
  rw [bindR_eq]
  congr 1
  funext y S2
  cases x <;> first | rfl | (cases y <;> first | rfl | (show DR.ok _ _ = _; rw [h.eq]; rfl))
structure BinF (g : DV → DV → Option DV) (c : Int → Int → Bool) (o : Int → Int → Int) : Prop where
  eq : ∀ i j, c i j = true → g (.int i) (.int j) = some (.int (o i j))
def i2 (o : Nat → Nat → Int) (f : Int → Int → Int) (i j : Int) : Int := Int.rec (motive := fun _ => Int) (fun m => Int.rec (motive := fun _ => Int) (fun n => o m n) (fun _ => f i j) j) (fun _ => f i j) i
theorem i2_eq {o : Nat → Nat → Int} {f : Int → Int → Int} (h : ∀ m n : Nat, o m n = f m n) (i j : Int) : i2 o f i j = f i j := by
  cases i <;> cases j <;> first | rfl | exact h _ _
def cYes : Int → Int → Bool := fun _ _ => true
def oAdd : Int → Int → Int := i2 (fun m n => .ofNat (Nat.add m n)) fun i j => i + j
def oSub : Int → Int → Int := i2 (fun m n => Bool.rec (motive := fun _ => Int) ((m : Int) - n) (.ofNat (Nat.sub m n)) (Nat.ble n m)) fun i j => i - j
def oMul : Int → Int → Int := i2 (fun m n => .ofNat (Nat.mul m n)) fun i j => i * j
def oDiv : Int → Int → Int := i2 (fun m n => .ofNat (Nat.div m n)) fun i j => i / j
def oMod : Int → Int → Int := i2 (fun m n => .ofNat (Nat.mod m n)) fun i j => i % j
def cMulF (i _ : Int) : Bool := Int.rec (motive := fun _ => Bool) (fun m => Nat.blt m 18446744073709551616) (fun _ => false) i
def cPosF (_ j : Int) : Bool := iLt 0 j
def cDivF (_ j : Int) : Bool := Bool.rec (motive := fun _ => Bool) false (iLt j 1267650600228229401496703205376) (iLt 0 j)
theorem binAdd : BinF gAdd cYes oAdd := ⟨fun i j _ => by rw [show oAdd i j = i + j from i2_eq (o := fun m n => .ofNat (Nat.add m n)) (f := fun i j => i + j) (fun m n => rfl) i j]; rfl⟩
theorem binSub : BinF gSub cYes oSub := ⟨fun i j _ => by
  rw [show oSub i j = i - j from i2_eq (o := fun m n => Bool.rec (motive := fun _ => Int) ((m : Int) - n) (.ofNat (Nat.sub m n)) (Nat.ble n m)) (f := fun i j => i - j) (fun m n => by
    cases h : Nat.ble n m with
    | false => rfl
    | true => exact Int.ofNat_sub (Nat.le_of_ble_eq_true h)) i j]
  rfl⟩
theorem binMul : BinF gMul cMulF oMul := ⟨fun i j h => by
  rw [show oMul i j = i * j from i2_eq (o := fun m n => .ofNat (Nat.mul m n)) (f := fun i j => i * j) (fun m n => rfl) i j]
  have : cMul i j = true := by
    cases i with
    | ofNat m =>
      have h2 : m < 18446744073709551616 := by
        have : Nat.blt m 18446744073709551616 = true := h
        exact Nat.blt_eq.mp this
      show cMul (m : Int) j = true
      unfold cMul
      rw [decide_eq_true (by omega), decide_eq_true (by omega)]
      rfl
    | negSucc m => cases h
  show (if cMul i j = true then _ else _) = _
  rw [if_pos this]⟩
theorem binMod : BinF gMod cPosF oMod := ⟨fun i j h => by
  rw [show oMod i j = i % j from i2_eq (o := fun m n => .ofNat (Nat.mod m n)) (f := fun i j => i % j) (fun m n => rfl) i j]
  have h1 : iLt 0 j = true := h
  rw [iLt_eq, decide_eq_true_iff] at h1
  show (if 0 < j then _ else _) = _
  rw [if_pos h1]⟩
theorem binDiv : BinF gDiv cDivF oDiv := ⟨fun i j h => by
  rw [show oDiv i j = i / j from i2_eq (o := fun m n => .ofNat (Nat.div m n)) (f := fun i j => i / j) (fun m n => rfl) i j]
  unfold cDivF at h
  cases h1 : iLt 0 j with
  | false => rw [h1] at h; cases h
  | true =>
    rw [h1] at h
    have h2 : iLt j 1267650600228229401496703205376 = true := h
    rw [iLt_eq, decide_eq_true_iff] at h1 h2
    show (if 0 < j then _ else _) = _
    rw [if_pos h1, if_pos h2]⟩
def eBinF (g : DV → DV → Option DV) (c : Int → Int → Bool) (o : Int → Int → Int) (a b : Ev) : Ev := fun ε S => bindR (a ε S) fun x S1 => bindR (b ε S1) fun y S2 => asI x (fun i => asI y (fun j => Bool.rec (motive := fun _ => DR DV) (optR (g x y) S2) (.ok (.int (o i j)) S2) (c i j)) (optR (g x y) S2)) (optR (g x y) S2)
theorem eBinF_eq {g : DV → DV → Option DV} {c : Int → Int → Bool} {o : Int → Int → Int} (h : BinF g c o) (a b : Ev) : eBinF g c o a b = eBin g a b := by
  funext ε S
  unfold eBinF eBin
  rw [bindR_eq]
  congr 1
  funext x S1
  rw [bindR_eq]
  congr 1
  funext y S2
  cases x with
  | int i =>
    cases y with
    | int j =>
      show (Bool.rec (motive := fun _ => DR DV) (optR (g (.int i) (.int j)) S2) (.ok (.int (o i j)) S2) (c i j)) = _
      cases hc : c i j with
      | false => rfl
      | true =>
        rw [h.eq i j hc]
        rfl
    | _ => rfl
  | _ => rfl

/-! ### ways -/
def bif' {α : Type} (k : Bool) (a b : α) : α := Bool.rec (motive := fun _ => α) b a k
theorem bif_eq {α : Type} (k : Bool) (a b : α) : bif' k a b = if k = true then a else b := by cases k <;> rfl
def eIfF (t : Et) (a b : Ev) : Ev := fun ε S => bindR (t ε S) fun k S1 => bif' k (a ε S1) (b ε S1)
theorem eIfF_eq (t : Et) (a b : Ev) : eIfF t a b = eIf t a b := by
  funext ε S
  unfold eIfF eIf
  simp only [bif_eq, bindR_eq, stR_eq]
def tAndF (a b : Et) : Et := fun ε S => bindR (a ε S) fun k S1 => bif' k (b ε S1) (.ok false S1)
theorem tAndF_eq (a b : Et) : tAndF a b = tAnd' a b := by
  funext ε S
  unfold tAndF tAnd'
  simp only [bif_eq, bindR_eq, stR_eq]
def tOrF (a b : Et) : Et := fun ε S => bindR (a ε S) fun k S1 => bif' k (.ok true S1) (b ε S1)
theorem tOrF_eq (a b : Et) : tOrF a b = tOr' a b := by
  funext ε S
  unfold tOrF tOr'
  simp only [bif_eq, bindR_eq, stR_eq]
def sIfF (t : Et) (a b : Sv) : Sv := fun ρ S => stR (t ρ S) ρ fun k S1 => bif' k (a ρ S1) (b ρ S1)
theorem sIfF_eq (t : Et) (a b : Sv) : sIfF t a b = sIf t a b := by
  funext ρ S
  unfold sIfF sIf
  simp only [bif_eq, bindR_eq, stR_eq]
def sWhileF (t : Et) (b : Sv) (N : Nat) : Sv := Nat.rec (motive := fun _ => Sv) (fun _ _ => .bad) (fun _ ih ρ S => stR (t ρ S) ρ fun k S1 => bif' k (DF.rec (motive := fun _ => DF) (fun ρ' S' => ih ρ' S') (fun d S' => .rt d S') (fun ρ' S' => .nx ρ' S') (fun ρ' S' => ih ρ' S') (fun x fs ρ S' => .exc x fs ρ S') .bad (b ρ S1)) (.nx ρ S1)) N
theorem sWhileF_eq (t : Et) (b : Sv) (N : Nat) : sWhileF t b N = sWhile t b N := by
  induction N with
  | zero =>
    funext ρ S
    rfl
  | succ n ih =>
    funext ρ S
    show (stR (t ρ S) ρ fun k S1 => bif' k (DF.rec (motive := fun _ => DF) (fun ρ' S' => sWhileF t b n ρ' S') (fun d S' => .rt d S') (fun ρ' S' => .nx ρ' S') (fun ρ' S' => sWhileF t b n ρ' S') (fun x fs ρ S' => .exc x fs ρ S') .bad (b ρ S1)) (.nx ρ S1)) = _
    rw [ih, sWhile, stR_eq]
    congr 1
    funext k S1
    rw [bif_eq]
    congr 1
    cases b ρ S1 <;> rfl
def sForLF (g : Ag) (b : Sv) (l : List DV) : Sv := List.rec (motive := fun _ => Sv) (fun ρ S => .nx ρ S) (fun d _ ih ρ S => Option.rec (motive := fun _ => DF) .bad (fun ρ1 => rP ρ1 fun ρ1 => DF.rec (motive := fun _ => DF) (fun ρ' S' => ih ρ' S') (fun d S' => .rt d S') (fun ρ' S' => .nx ρ' S') (fun ρ' S' => ih ρ' S') (fun x fs ρ S' => .exc x fs ρ S') .bad (b ρ1 S)) (g d ρ)) l
theorem sForLF_eq (g : Ag) (b : Sv) (l : List DV) : sForLF g b l = sForL g b l := by
  induction l with
  | nil =>
    funext ρ S
    unfold sForL
    rfl
  | cons d r ih =>
    funext ρ S
    show Option.rec (motive := fun _ => DF) .bad (fun ρ1 => rP ρ1 fun ρ1 => DF.rec (motive := fun _ => DF) (fun ρ' S' => sForLF g b r ρ' S') (fun d S' => .rt d S') (fun ρ' S' => .nx ρ' S') (fun ρ' S' => sForLF g b r ρ' S') (fun x fs ρ S' => .exc x fs ρ S') .bad (b ρ1 S)) (g d ρ) = _
    rw [ih]
    rw [sForL]
    cases g d ρ with
    | none => rfl
    | some ρ1 =>
      show (rP ρ1 fun ρ1 => DF.rec (motive := fun _ => DF) _ _ _ _ _ _ (b ρ1 S)) = _
      rw [rP_eq]
      dsimp only
      cases b ρ1 S <;> rfl
def sForF (g : Ag) (it : Ei) (b : Sv) : Sv := fun ρ S => stR (it ρ S) ρ fun ds S1 => rL rD ds fun ds => sForLF g b ds ρ S1
theorem sForF_eq (g : Ag) (it : Ei) (b : Sv) : sForF g it b = sFor g it b := by
  funext ρ S
  unfold sForF sFor
  rw [stR_eq]
  congr 1
  funext ds S1
  rw [rL_eq rD_eq, sForLF_eq]
def sSeqF (a b : Sv) : Sv := fun ρ S => DF.rec (motive := fun _ => DF) (fun ρ' S' => b ρ' S') (fun d S' => .rt d S') (fun ρ S' => .bk ρ S') (fun ρ S' => .ct ρ S') (fun x fs ρ S' => .exc x fs ρ S') .bad (a ρ S)
theorem sSeqF_eq (a b : Sv) : sSeqF a b = sSeq a b := by
  funext ρ S
  unfold sSeqF sSeq
  cases a ρ S <;> rfl
/-! ### kinds -/
def isIntF : DV → Option DV
  | .obj _ => none
  | .dk _ => none
  | .dt _ => none
  | .bl _ => some (.bl true)
  | .int _ => some (.bl true)
  | _ => some (.bl false)
theorem isT_int : isT "int" = isIntF := by funext d; cases d <;> rfl
def isBoolF : DV → Option DV
  | .obj _ => none
  | .dk _ => none
  | .dt _ => none
  | .bl _ => some (.bl true)
  | _ => some (.bl false)
theorem isT_bool : isT "bool" = isBoolF := by funext d; cases d <;> rfl
def isStrF : DV → Option DV
  | .obj _ => none
  | .dk _ => none
  | .dt _ => none
  | .str _ => some (.bl true)
  | _ => some (.bl false)
theorem isT_str : isT "str" = isStrF := by funext d; cases d <;> rfl
def isTupF : DV → Option DV
  | .obj _ => none
  | .dk _ => none
  | .dt _ => none
  | .tup _ => some (.bl true)
  | _ => some (.bl false)
theorem isT_tuple : isT "tuple" = isTupF := by funext d; cases d <;> rfl
def isLstF : DV → Option DV
  | .obj _ => none
  | .dk _ => none
  | .dt _ => none
  | .lst _ => some (.bl true)
  | .scr _ => some (.bl true)
  | _ => some (.bl false)
theorem isT_list : isT "list" = isLstF := by funext d; cases d <;> rfl
/-! ### things put together -/
def eUnF (g : DV → Option DV) (a : Ev) : Ev := fun ε S => bindR (a ε S) fun x S1 => optR' (g x) S1
theorem eUnF_eq (g : DV → Option DV) (a : Ev) : eUnF g a = eUn g a := by
  funext ε S
  unfold eUnF eUn
  simp only [bindR_eq, optR_eq]
def tNotF (a : Et) : Et := fun ε S => bindR (a ε S) fun k S1 => .ok (!k) S1
theorem tNotF_eq (a : Et) : tNotF a = tNot' a := by
  funext ε S
  unfold tNotF tNot'
  rw [bindR_eq]
def aConsF (a : Ev) (r : Evs) : Evs := fun ε S => bindR (a ε S) fun x S1 => bindR (r ε S1) fun xs S2 => .ok (x :: xs) S2
theorem aConsF_eq (a : Ev) (r : Evs) : aConsF a r = aCons a r := by
  funext ε S
  unfold aConsF aCons
  simp only [bindR_eq]
def eTupF (r : Evs) : Ev := fun ε S => bindR (r ε S) fun xs S1 => .ok (.tup xs) S1
theorem eTupF_eq (r : Evs) : eTupF r = eTup r := by
  funext ε S
  unfold eTupF eTup
  rw [bindR_eq]
def eLstF (r : Evs) : Ev := fun ε S => bindR (r ε S) fun xs S1 => .ok (.lst xs) S1
theorem eLstF_eq (r : Evs) : eLstF r = eLst r := by
  funext ε S
  unfold eLstF eLst
  rw [bindR_eq]
def eCallF (m : Fn) (er : Evs) : Ev := fun ρ S => bindR (er ρ S) fun ds S1 => m ds S1
theorem eCallF_eq (m : Fn) (er : Evs) : eCallF m er = eCall m er := by
  funext ε S
  unfold eCallF eCall
  rw [bindR_eq]
def frM (n : Nat) (f : Sv) : Fn := fun ds S => rL rD ds fun ds => rP (ds.map SL.val ++ List.replicate (n - ds.length) SL.emp) fun ρ => DF.rec (motive := fun _ => DR DV) (fun _ S' => .ok .non S') (fun d S' => .ok d S') (fun _ _ => .bad) (fun _ _ => .bad) (fun x fs _ S' => .exc x fs S') .bad (f ρ S)
theorem frM_eq (n : Nat) (f : Sv) : frM n f = mkFn n f := by
  funext ds S
  unfold frM mkFn
  rw [rL_eq rD_eq, rP_eq]
  cases f (ds.map SL.val ++ List.replicate (n - ds.length) SL.emp) S <;> rfl
def cLoopF (g : Ag) (tt : Et) (ee : Ev) (l : List DV) (ρ : List SL) : List DO → DR (List DV) := List.rec (motive := fun _ => List DO → DR (List DV)) (fun S => .ok [] S)
  (fun d _ ih S => Option.rec (motive := fun _ => DR (List DV)) .bad (fun ρ1 => rP ρ1 fun ρ1 => DR.rec (motive := fun _ => DR (List DV)) (fun k S1 => bif' k (DR.rec (motive := fun _ => DR (List DV)) (fun x S2 => rD x fun x => bindR (ih S2) fun xs S3 => .ok (x :: xs) S3) (fun _ _ _ => .bad) .bad (ee ρ1 S1)) (ih S1)) (fun _ _ _ => .bad) .bad (tt ρ1 S)) (g d ρ)) l
theorem cLoopF_eq (g : Ag) (tt : Et) (ee : Ev) (l : List DV) (ρ : List SL) : ∀ S, cLoopF g tt ee l ρ S = cLoop g tt ee l ρ S := by
  induction l with
  | nil =>
    intro S
    unfold cLoop
    rfl
  | cons d r ih =>
    intro S
    show Option.rec (motive := fun _ => DR (List DV)) .bad (fun ρ1 => rP ρ1 fun ρ1 => DR.rec (motive := fun _ => DR (List DV)) (fun k S1 => bif' k (DR.rec (motive := fun _ => DR (List DV)) (fun x S2 => rD x fun x => bindR (cLoopF g tt ee r ρ S2) fun xs S3 => .ok (x :: xs) S3) (fun _ _ _ => .bad) .bad (ee ρ1 S1)) (cLoopF g tt ee r ρ S1)) (fun _ _ _ => .bad) .bad (tt ρ1 S)) (g d ρ) = _
    rw [cLoop]
    cases g d ρ with
    | none => rfl
    | some ρ1 =>
      show (rP ρ1 fun ρ1 => DR.rec (motive := fun _ => DR (List DV)) _ _ _ (tt ρ1 S)) = _
      rw [rP_eq]
      dsimp only
      cases tt ρ1 S with
      | ok k S1 =>
        show bif' k _ _ = DR.bind (.ok k S1) _
        rw [bif_eq]
        show _ = if k = true then _ else _
        congr 1
        · cases ee ρ1 S1 with
          | ok x S2 =>
            show (rD x fun x => bindR (cLoopF g tt ee r ρ S2) fun xs S3 => .ok (x :: xs) S3) = _
            rw [rD_eq, bindR_eq, ih]
            rfl
          | exc => rfl
          | bad => rfl
        · exact ih S1
      | exc => rfl
      | bad => rfl
def eCompF (it : Ei) (g : Ag) (tt : Et) (ee : Ev) (vs : List Nat) : Ev := fun ρ S => bindR (it ρ S) fun ds S1 => rL rD ds fun ds => bif' (Nat.blt ds.length 16777216) (rP (blkS ρ vs) fun β => bindR (cLoopF g tt ee ds β S1) fun xs S2 => .ok (.lst xs) S2) .bad
theorem eCompF_eq (it : Ei) (g : Ag) (tt : Et) (ee : Ev) (vs : List Nat) : eCompF it g tt ee vs = eComp it g tt ee vs := by
  funext ρ S
  unfold eCompF eComp
  rw [bindR_eq]
  congr 1
  funext ds S1
  rw [rL_eq rD_eq, bif_eq, rP_eq, bindR_eq, cLoopF_eq]
  by_cases h : ds.length < 16777216
  · rw [if_pos (Nat.blt_eq.mpr h), if_pos h]
  · rw [if_neg (fun z => h (Nat.blt_eq.mp z)), if_neg h]
/-! ### dicts -/
def keyEq (a b : Key) : Bool := Sum.rec (motive := fun _ => Bool) (fun i => Sum.rec (motive := fun _ => Bool) (fun j => iEq i j) (fun _ => false) b) (fun x => Sum.rec (motive := fun _ => Bool) (fun _ => false) (fun y => decide (x = y)) b) a
theorem keyEq_eq (a b : Key) : keyEq a b = decide (a = b) := by
  cases a with
  | inl i =>
    cases b with
    | inl j =>
      show iEq i j = _
      rw [iEq_eq]
      by_cases h : i = j
      · rw [h, decide_eq_true rfl, decide_eq_true rfl]
      · rw [decide_eq_false h, decide_eq_false fun z => h (Sum.inl.inj z)]
    | inr y => exact (decide_eq_false fun z => by cases z).symm
  | inr x =>
    cases b with
    | inl j => exact (decide_eq_false fun z => by cases z).symm
    | inr y =>
      show decide (x = y) = _
      by_cases h : x = y
      · rw [h, decide_eq_true rfl, decide_eq_true rfl]
      · rw [decide_eq_false h, decide_eq_false fun z => h (Sum.inr.inj z)]
def kAnyF (l : List (Key × DV)) (k : Key) : Bool := List.rec (motive := fun _ => Bool) false (fun p _ ih => bif' (keyEq p.1 k) true ih) l
theorem kAnyF_eq (l : List (Key × DV)) (k : Key) : kAnyF l k = l.any fun kv => decide (kv.1 = k) := by
  induction l with
  | nil => rfl
  | cons p r ih =>
    show bif' (keyEq p.1 k) true (kAnyF r k) = _
    rw [ih, keyEq_eq, List.any_cons]
    cases decide (p.1 = k) <;> rfl
def kGetF (l : List (Key × DV)) (k : Key) : Option DV := List.rec (motive := fun _ => Option DV) none (fun p _ ih => bif' (keyEq p.1 k) (some p.2) ih) l
theorem kGetF_eq (l : List (Key × DV)) (k : Key) : kGetF l k = kGet l k := by
  induction l with
  | nil => rfl
  | cons p r ih =>
    show bif' (keyEq p.1 k) (some p.2) (kGetF r k) = _
    rw [ih, keyEq_eq]
    unfold kGet
    by_cases h : p.1 = k
    · rw [decide_eq_true h, List.find?_cons_of_pos (by simpa using h)]
      rfl
    · rw [decide_eq_false h, List.find?_cons_of_neg (by simpa using h)]
      rfl
theorem kGet_any (l : List (Key × DV)) (k : Key) : (kGet l k).isSome = kAnyF l k := by
  rw [← kGetF_eq]
  induction l with
  | nil => rfl
  | cons p r ih =>
    show (bif' (keyEq p.1 k) (some p.2) (kGetF r k)).isSome = bif' (keyEq p.1 k) true (kAnyF r k)
    rw [← ih]
    cases keyEq p.1 k <;> rfl
def kMapF {α : Type} (l : List (Key × DV)) (k : Key) (d : DV) : (List (Key × DV) → α) → α := List.rec (motive := fun _ => (List (Key × DV) → α) → α) (fun c => c []) (fun p _ ih c => bif' (keyEq p.1 k) (ih fun r => c ((p.1, d) :: r)) (ih fun r => c (p :: r))) l
theorem kMapF_eq {α : Type} (l : List (Key × DV)) (k : Key) (d : DV) : ∀ c : List (Key × DV) → α, kMapF l k d c = c (l.map fun kv => if kv.1 = k then (kv.1, d) else kv) := by
  induction l with
  | nil => exact fun _ => rfl
  | cons p r ih =>
    intro c
    show bif' (keyEq p.1 k) (kMapF r k d fun r => c ((p.1, d) :: r)) (kMapF r k d fun r => c (p :: r)) = _
    rw [ih, ih, keyEq_eq, List.map_cons]
    by_cases h : p.1 = k
    · rw [decide_eq_true h, if_pos h]
      rfl
    · rw [decide_eq_false h, if_neg h]
      rfl
def kPutF {α : Type} (l : List (Key × DV)) (k : Key) (d : DV) (c : List (Key × DV) → α) : α := bif' (kAnyF l k) (kMapF l k d c) (rP (l ++ [(k, d)]) c)
theorem kPutF_eq {α : Type} (l : List (Key × DV)) (k : Key) (d : DV) (c : List (Key × DV) → α) : kPutF l k d c = c (kPut l k d) := by
  unfold kPutF kPut
  rw [bif_eq, kMapF_eq, rP_eq, kAnyF_eq]
  split <;> rfl
def gKinF (k d : DV) : Option DV := match d with
  | .dk l => (keyD k).map fun x => DV.bl (kAnyF l x)
  | _ => none
theorem gKinF_eq : gKinF = gKin := by
  funext k d
  cases d <;> try rfl
  unfold gKinF gKin dGet
  dsimp only
  cases keyD k with
  | none => rfl
  | some x =>
    show some (DV.bl (kAnyF _ x)) = some (DV.bl ((kGet _ x).isSome))
    rw [kGet_any]
def gKnotF (k d : DV) : Option DV := match d with
  | .dk l => (keyD k).map fun x => DV.bl (!kAnyF l x)
  | _ => none
theorem gKnotF_eq : gKnotF = gKnot := by
  funext k d
  cases d <;> try rfl
  unfold gKnotF gKnot dGet
  dsimp only
  cases keyD k with
  | none => rfl
  | some x =>
    show some (DV.bl (!kAnyF _ x)) = some (DV.bl (!(kGet _ x).isSome))
    rw [kGet_any]
def tCmpG (g : DV → DV → Option DV) (a b : Ev) : Et := fun ε S => bindR (a ε S) fun x S1 => bindR (b ε S1) fun y S2 => cmpR g x y S2
theorem tCmpG_eq {g h : DV → DV → Option DV} (e : g = h) (a b : Ev) : tCmpG g a b = tCmpB h a b := by
  subst e
  funext ε S
  unfold tCmpG tCmpB
  simp only [bindR_eq]
  rfl
def eBinG (g : DV → DV → Option DV) (a b : Ev) : Ev := fun ε S => bindR (a ε S) fun x S1 => bindR (b ε S1) fun y S2 => optR' (g x y) S2
theorem eBinG_eq {g h : DV → DV → Option DV} (e : g = h) (a b : Ev) : eBinG g a b = eBin h a b := by
  subst e
  funext ε S
  unfold eBinG eBin
  simp only [bindR_eq, optR_eq]
def lenF {α : Type} (l : List α) : Nat := List.rec (motive := fun _ => Nat) 0 (fun _ _ ih => Nat.add ih 1) l
theorem lenF_eq {α : Type} (l : List α) : lenF l = l.length := by
  induction l with
  | nil => rfl
  | cons x r ih =>
    show lenF r + 1 = _
    rw [ih]
    rfl
def sDputF (i : Nat) (ei ee : Ev) : Sv := fun ρ S => stR (ee ρ S) ρ fun d S1 => SL.rec (motive := fun _ => DF) .bad (fun _ => .bad) (fun _ => .bad) (fun l => stR (ei ρ S1) ρ fun ix S2 => Option.rec (motive := fun _ => DF) .bad (fun k => rK k fun k => rD d fun d => bif' (Nat.blt (lenF l) 16777216) (kPutF l k d fun l => setF ρ i (.ok l) fun ρ' => .nx ρ' S2) .bad) (keyD ix)) (fun _ => .bad) (nthF ρ i)
theorem sDputF_eq (i : Nat) (ei ee : Ev) : sDputF i ei ee = sDput i ei ee := by
  funext ρ S
  unfold sDputF sDput onK
  rw [stR_eq]
  congr 1
  funext d S1
  rw [nthF_eq]
  cases ρ[i]? with
  | none => rfl
  | some s =>
    cases s with
    | ok l =>
      show stR (ei ρ S1) ρ _ = DR.st (ei ρ S1) ρ _
      rw [stR_eq]
      congr 1
      funext ix S2
      cases keyD ix with
      | none => rfl
      | some k =>
        show (rK k fun k => rD d fun d => _) = _
        rw [rK_eq, rD_eq, bif_eq, kPutF_eq, setF_eq, lenF_eq]
        dsimp only
        by_cases h : l.length < 16777216
        · rw [if_pos (Nat.blt_eq.mpr h), if_pos h]
        · rw [if_neg (fun z => h (Nat.blt_eq.mp z)), if_neg h]
    | _ => rfl
def sAppF (i : Nat) (e : Ev) : Sv := fun ρ S => SL.rec (motive := fun _ => DF) .bad (fun _ => .bad) (fun l => stR (e ρ S) ρ fun d S1 => rD d fun d => bif' (Nat.blt (lenF l) 16777216) (rP (l ++ [d]) fun l => setF ρ i (.ol l) fun ρ' => .nx ρ' S1) .bad) (fun _ => .bad) (fun _ => .bad) (nthF ρ i)
theorem sAppF_eq (i : Nat) (e : Ev) : sAppF i e = sApp i e := by
  funext ρ S
  unfold sAppF sApp onL
  rw [nthF_eq]
  cases ρ[i]? with
  | none => rfl
  | some s =>
    cases s with
    | ol l =>
      show stR (e ρ S) ρ _ = DR.st (e ρ S) ρ _
      rw [stR_eq]
      congr 1
      funext d S1
      rw [rD_eq, bif_eq, rP_eq, setF_eq, lenF_eq]
      by_cases h : l.length < 16777216
      · rw [if_pos (Nat.blt_eq.mpr h), if_pos h]
      · rw [if_neg (fun z => h (Nat.blt_eq.mp z)), if_neg h]
    | _ => rfl
/-! ### in a derivation -/
section
variable {X : Cx} {c : DC} {W : WX}
theorem psF {s : Stmt} {f : Sv} {i : Nat} (h : PS X s (tS X.K c W f)) : PS X s (tS X.K c W (sF i f)) := by
  rw [sF_eq]
  exact h
theorem psFr {s : Stmt} {f : Sv} (h : PS X s (tS X.K c W f)) : PS X s (tS X.K c W (sFr f)) := by
  rw [sFr_eq]
  exact h
theorem psC {s : Stmt} {f g : Sv} (e : f = g) (h : PS X s (tS X.K c W g)) : PS X s (tS X.K c W f) := by
  rw [e]
  exact h
theorem pssC {s : List Stmt} {f g : Sv} (e : f = g) (h : PSs X s (tS X.K c W g)) : PSs X s (tS X.K c W f) := by
  rw [e]
  exact h
theorem peC {e : Expr} {f g : Ev} (h1 : f = g) (h : PE X e (tD X.K c W g)) : PE X e (tD X.K c W f) := by
  rw [h1]
  exact h
theorem ptC {e : Expr} {f g : Et} (h1 : f = g) (h : PT X e (tDt X.K c W g)) : PT X e (tDt X.K c W f) := by
  rw [h1]
  exact h
theorem paC {e : List Expr} {f g : Evs} (h1 : f = g) (h : PA X e (tDs X.K c W g)) : PA X e (tDs X.K c W f) := by
  rw [h1]
  exact h
theorem pnC {e : Expr} {f g : Ev} (h1 : f = g) (h : PE X e (tDn X.K c W g)) : PE X e (tDn X.K c W f) := by
  rw [h1]
  exact h
theorem alnC {f g : Evs} {n : Nat} (h1 : f = g) (h : ALen g n) : ALen f n := by
  rw [h1]
  exact h
theorem pwC {e : Expr} {f g : Et} (h1 : f = g) (h : PW X e (tDt X.K c W g)) : PW X e (tDt X.K c W f) := by
  rw [h1]
  exact h
end
theorem FnAt.fr {P : Program} {w : World} {K : PySem.W.Frag} {mg : Str → Option Value} {base : Heap} {c : DC} {x : Str} {k n l : Nat} {m : Sv} (h : FnAt P w K mg base c x k n (mkFn l m)) : FnAt P w K mg base c x k n (frM l m) := by
  rw [frM_eq]
  exact h
end DL

namespace DL
open PySem PySem.Spec L2
open PyProof.Rows hiding St
/-! ### what a mirror gives at a state, step by step -/
theorem gmul_ok {i j : Int} (h1 : -18446744073709551616 < i) (h2 : i < 18446744073709551616) : gMul (.int i) (.int j) = some (.int (i * j)) := by
  show (if cMul i j = true then _ else _) = _
  rw [if_pos]
  unfold cMul
  rw [decide_eq_true h1, decide_eq_true h2]
  rfl
theorem gmod_ok {i j : Int} (h : 0 < j) : DL.gMod (.int i) (.int j) = some (.int (i % j)) := by
  show (if 0 < j then _ else _) = _
  rw [if_pos h]
theorem gdiv_ok {i j : Int} (h : 0 < j) (h2 : j < 1267650600228229401496703205376) : DL.gDiv (.int i) (.int j) = some (.int (i / j)) := by
  show (if 0 < j then _ else _) = _
  rw [if_pos h, if_pos h2]
/-! expressions at slots -/
section
variable {ρ : List SL} {S S1 S2 : List DO} {a b : Ev} {x y : Int} {d e : DV} {i : Nat}
theorem v_var (h : ρ[i]? = some (.val d)) : eVarF i ρ S = .ok d S := by
  rw [eVarF_eq]
  unfold eVar
  rw [h]
theorem v_bin {g : DV → DV → Option DV} {c : Int → Int → Bool} {o : Int → Int → Int} (B : BinF g c o) (ha : a ρ S = .ok d S1) (hb : b ρ S1 = .ok e S2) {z : DV} (hg : g d e = some z) : eBinF g c o a b ρ S = .ok z S2 := by
  rw [eBinF_eq B]
  unfold eBin
  rw [ha]
  show DR.bind (b ρ S1) _ = _
  rw [hb]
  show optR (g d e) S2 = _
  rw [hg]
  rfl
theorem v_eBin {g : DV → DV → Option DV} (ha : a ρ S = .ok d S1) (hb : b ρ S1 = .ok e S2) {z : DV} (hg : g d e = some z) : eBin g a b ρ S = .ok z S2 := by
  unfold eBin
  rw [ha]
  show DR.bind (b ρ S1) (fun y S2 => optR (g d y) S2) = _
  rw [hb]
  show optR (g d e) S2 = _
  rw [hg]
  rfl
theorem v_add (ha : a ρ S = .ok (.int x) S1) (hb : b ρ S1 = .ok (.int y) S2) : eBinF DL.gAdd cYes oAdd a b ρ S = .ok (.int (x + y)) S2 := v_bin binAdd ha hb rfl
theorem v_sub (ha : a ρ S = .ok (.int x) S1) (hb : b ρ S1 = .ok (.int y) S2) : eBinF DL.gSub cYes oSub a b ρ S = .ok (.int (x - y)) S2 := v_bin binSub ha hb rfl
theorem v_mul (ha : a ρ S = .ok (.int x) S1) (hb : b ρ S1 = .ok (.int y) S2) (h1 : -18446744073709551616 < x) (h2 : x < 18446744073709551616) : eBinF gMul cMulF oMul a b ρ S = .ok (.int (x * y)) S2 := v_bin binMul ha hb (gmul_ok h1 h2)
theorem v_mod (ha : a ρ S = .ok (.int x) S1) (hb : b ρ S1 = .ok (.int y) S2) (h : 0 < y) : eBinF DL.gMod cPosF oMod a b ρ S = .ok (.int (x % y)) S2 := v_bin binMod ha hb (gmod_ok h)
theorem v_div (ha : a ρ S = .ok (.int x) S1) (hb : b ρ S1 = .ok (.int y) S2) (h : 0 < y) (h2 : y < 1267650600228229401496703205376) : eBinF DL.gDiv cDivF oDiv a b ρ S = .ok (.int (x / y)) S2 := v_bin binDiv ha hb (gdiv_ok h h2)
theorem v_cmp {g : DV → DV → Option DV} {o : Int → Int → Bool} (C : CmpF g o) (ha : a ρ S = .ok (.int x) S1) (hb : b ρ S1 = .ok (.int y) S2) : tCmpF g o a b ρ S = .ok (o x y) S2 := by
  rw [tCmpF_eq C]
  unfold tCmpB
  rw [ha]
  show DR.bind (b ρ S1) _ = _
  rw [hb]
  show (match g (.int x) (.int y) with
    | some (.bl k) => DR.ok k S2
    | _ => .bad) = _
  rw [C.eq]
theorem v_ecmp {g : DV → DV → Option DV} {o : Int → Int → Bool} (C : CmpF g o) (ha : a ρ S = .ok (.int x) S1) (hb : b ρ S1 = .ok (.int y) S2) : eCmpF g o a b ρ S = .ok (.bl (o x y)) S2 := by
  rw [eCmpF_eq C]
  unfold eBin
  rw [ha]
  show DR.bind (b ρ S1) _ = _
  rw [hb]
  show optR (g (.int x) (.int y)) S2 = _
  rw [C.eq]
  rfl
theorem v_and (ha : a ρ S = .ok (.bl true) S1) (hb : b ρ S1 = .ok d S2) : eAnd' a b ρ S = .ok d S2 := by
  unfold eAnd'
  rw [ha]
  exact hb
theorem v_cons {r : Evs} {ds : List DV} (ha : a ρ S = .ok d S1) (hr : r ρ S1 = .ok ds S2) : aConsF a r ρ S = .ok (d :: ds) S2 := by
  rw [aConsF_eq]
  unfold aCons
  rw [ha]
  show DR.bind (r ρ S1) _ = _
  rw [hr]
  rfl
theorem v_tup {r : Evs} {ds : List DV} (hr : r ρ S = .ok ds S2) : eTupF r ρ S = .ok (.tup ds) S2 := by
  rw [eTupF_eq]
  unfold eTup
  rw [hr]
  rfl
theorem v_blt {g : List DV → Option DV} {r : Evs} {ds : List DV} (hr : r ρ S = .ok ds S2) (hg : g ds = some d) : eBlt g r ρ S = .ok d S2 := by
  unfold eBlt
  rw [hr]
  show optR (g ds) S2 = _
  rw [hg]
  rfl
theorem v_call {m : Fn} {r : Evs} {ds : List DV} (hr : r ρ S = .ok ds S1) (hm : m ds S1 = .ok d S2) : eCallF m r ρ S = .ok d S2 := by
  rw [eCallF_eq]
  unfold eCall
  rw [hr]
  exact hm
theorem v_un {g : DV → Option DV} (ha : a ρ S = .ok d S1) (hg : g d = some e) : eUnF g a ρ S = .ok e S1 := by
  rw [eUnF_eq]
  unfold eUn
  rw [ha]
  show optR (g d) S1 = _
  rw [hg]
  rfl
theorem v_ifT {t : Et} (ht : t ρ S = .ok true S1) (ha : a ρ S1 = .ok d S2) : eIfF t a b ρ S = .ok d S2 := by
  rw [eIfF_eq]
  unfold eIf
  rw [ht]
  exact ha
theorem v_ifF {t : Et} (ht : t ρ S = .ok false S1) (hb : b ρ S1 = .ok d S2) : eIfF t a b ρ S = .ok d S2 := by
  rw [eIfF_eq]
  unfold eIf
  rw [ht]
  exact hb
theorem t_not {t : Et} {k : Bool} (ht : t ρ S = .ok k S1) : tNotF t ρ S = .ok (!k) S1 := by
  rw [tNotF_eq]
  unfold tNot'
  rw [ht]
  rfl
theorem t_orF {s t : Et} {k : Bool} (hs : s ρ S = .ok false S1) (ht : t ρ S1 = .ok k S2) : tOrF s t ρ S = .ok k S2 := by
  rw [tOrF_eq]
  unfold tOr'
  rw [hs]
  exact ht
theorem t_of {k : Bool} (h : a ρ S = .ok (.bl k) S1) : tOf a ρ S = .ok k S1 := by
  unfold tOf
  rw [h]
  rfl
/-! statements -/
variable {s t : Sv} {r : DF} {ρ1 : List SL}
theorem s_seq (hs : s ρ S = .nx ρ1 S1) (ht : t ρ1 S1 = r) : sSeqF s t ρ S = r := by
  rw [sSeqF_eq]
  unfold sSeq
  rw [hs]
  exact ht
theorem s_seqR (hs : s ρ S = .rt d S1) : sSeqF s t ρ S = .rt d S1 := by
  rw [sSeqF_eq]
  unfold sSeq
  rw [hs]
theorem s_set (h : a ρ S = .ok d S1) : sSetF i a ρ S = .nx (ρ.set i (.val d)) S1 := by
  rw [sSetF_eq]
  unfold sSet
  rw [h]
  rfl
theorem s_ret (h : a ρ S = .ok d S1) : sFr (sRet a) ρ S = .rt d S1 := by
  rw [sFr_eq]
  unfold sRet
  rw [h]
  rfl
theorem s_ifT {c : Et} (hc : c ρ S = .ok true S1) (h : s ρ S1 = r) : sIfF c s t ρ S = r := by
  rw [sIfF_eq]
  unfold sIf
  rw [hc]
  exact h
theorem s_ifF {c : Et} (hc : c ρ S = .ok false S1) (h : t ρ S1 = r) : sIfF c s t ρ S = r := by
  rw [sIfF_eq]
  unfold sIf
  rw [hc]
  exact h
theorem s_par {j : Nat} {er : Evs} (h : er ρ S = .ok [d, e] S1) : sPar i j er ρ S = .nx ((ρ.set i (.val d)).set j (.val e)) S1 := by
  unfold sPar
  rw [h]
  rfl
theorem s_par3 {j l : Nat} {f : DV} {er : Evs} (h : er ρ S = .ok [d, e, f] S1) : sPar3 i j l er ρ S = .nx (((ρ.set i (.val d)).set j (.val e)).set l (.val f)) S1 := by
  unfold sPar3
  rw [h]
  rfl
theorem s_F (h : s ρ S = r) : sF i s ρ S = r := by rw [sF_eq]; exact h
theorem s_whT {c : Et} {n : Nat} (hc : c ρ S = .ok true S1) (hb : s ρ S1 = .nx ρ1 S2) (h : sWhile c s n ρ1 S2 = r) : sWhile c s (n + 1) ρ S = r := by
  rw [sWhile, hc]
  show (match s ρ S1 with
      | .nx ρ' S' => sWhile c s n ρ' S'
      | .ct ρ' S' => sWhile c s n ρ' S'
      | .bk ρ' S' => .nx ρ' S'
      | r => r) = _
  rw [hb]
  exact h
theorem s_whR {c : Et} {n : Nat} (hc : c ρ S = .ok true S1) (hb : s ρ S1 = .rt d S2) : sWhile c s (n + 1) ρ S = .rt d S2 := by
  rw [sWhile, hc]
  show (match s ρ S1 with
      | .nx ρ' S' => sWhile c s n ρ' S'
      | .ct ρ' S' => sWhile c s n ρ' S'
      | .bk ρ' S' => .nx ρ' S'
      | r => r) = _
  rw [hb]
theorem s_whF {c : Et} {n : Nat} (hc : c ρ S = .ok false S1) : sWhile c s (n + 1) ρ S = .nx ρ S1 := by
  rw [sWhile, hc]
  rfl
theorem fn_rt {n : Nat} {ds : List DV} (h : s (ds.map SL.val ++ List.replicate (n - ds.length) SL.emp) S = .rt d S1) : frM n s ds S = .ok d S1 := by
  rw [frM_eq]
  unfold mkFn
  rw [h]
end

section
variable {ρ ρ1 : List SL} {S S1 S2 S3 : List DO} {a b ee : Ev} {d x : DV} {r xs ds : List DV} {g : Ag} {tt : Et} {it : Ei} {s : Sv} {q : DF} {vs : List Nat}
theorem c_cons (hg : g d ρ = some ρ1) (ht : tt ρ1 S = .ok true S1) (he : ee ρ1 S1 = .ok x S2) (hr : cLoop g tt ee r ρ S2 = .ok xs S3) : cLoop g tt ee (d :: r) ρ S = .ok (x :: xs) S3 := by
  rw [cLoop, hg]
  show DR.bind (DR.nox (tt ρ1 S)) _ = _
  rw [ht]
  show DR.bind (DR.nox (ee ρ1 S1)) _ = _
  rw [he]
  show DR.bind (cLoop g tt ee r ρ S2) _ = _
  rw [hr]
  rfl
theorem v_comp (hi : it ρ S = .ok ds S1) (hl : ds.length < 16777216) (hc : cLoop g tt ee ds (blkS ρ vs) S1 = .ok xs S2) : eCompF it g tt ee vs ρ S = .ok (.lst xs) S2 := by
  rw [eCompF_eq]
  unfold eComp
  rw [hi]
  show (if ds.length < 16777216 then DR.bind (cLoop g tt ee ds (blkS ρ vs) S1) (fun xs S2 => DR.ok (DV.lst xs) S2) else DR.bad) = _
  rw [if_pos hl, hc]
  rfl
theorem s_for (hi : it ρ S = .ok ds S1) (h : sForL g s ds ρ S1 = q) : sForF g it s ρ S = q := by
  rw [sForF_eq]
  unfold sFor
  rw [hi]
  exact h
theorem f_step {ρ2 : List SL} (hg : g d ρ = some ρ1) (hb : s ρ1 S = .nx ρ2 S1) (hr : sForL g s r ρ2 S1 = q) : sForL g s (d :: r) ρ S = q := by
  rw [sForL, hg]
  show (match s ρ1 S with
      | .nx ρ' S' => sForL g s r ρ' S'
      | .ct ρ' S' => sForL g s r ρ' S'
      | .bk ρ' S' => .nx ρ' S'
      | q => q) = _
  rw [hb]
  exact hr
theorem s_wh {c : Et} {n : Nat} (h : sWhile c s n ρ S = q) : sWhileF c s n ρ S = q := by rw [sWhileF_eq]; exact h
end
theorem s_retTape {ρ : List SL} {S S1 S2 : List DO} {f1 f2 : Ev} {l : List DV} {i : Int} {ns : List Int} (h1 : f1 ρ S = .ok (.lst l) S1) (h2 : f2 ρ S1 = .ok (.int i) S2) (hi : ints? l = some ns) : sRetTape f1 f2 ρ S = .rt (.obj S2.length) (S2 ++ [.tape ns i]) := by
  unfold sRetTape
  simp only [h1, h2, DR.st, hi]
theorem FU_succ : FU = 999999999999 + 1 := rfl
theorem draw_ok (m : Int) (cells : List Int) (seed : Int) (h0 : 0 < m) (h1 : m < 1267650600228229401496703205376) : ∃ r c' s', mDraw [.obj 0, .int m] [.tape cells seed] = .ok (.int r) [.tape c' s'] ∧ 0 ≤ r ∧ r < m := by
  unfold mDraw
  dsimp only [List.getElem?_cons_zero]
  rw [if_pos ⟨h0, h1⟩]
  split
  · exact ⟨_, _, _, rfl, Int.emod_nonneg _ (by omega), Int.emod_lt_of_pos _ h0⟩
  · exact ⟨_, _, _, rfl, Int.emod_nonneg _ (by omega), Int.emod_lt_of_pos _ h0⟩
end DL

namespace KA
open PySem PySem.Spec L2 DL
open PyProof.Rows hiding St
def topS (i : Nat) : Stmt := (PySem.Challenge.pw_chordkeep_k69_whole_numbers_about_primes).main.body.getD i (.Pass ⟨0, 0, 0, 0⟩)
abbrev s_power : Stmt := topS 1
abbrev n_power : List Str := ["base", "exponent", "modulus", "found"]
theorem sc_power : FnScope n_power ["base", "exponent", "modulus"] (defScope s_power) := ⟨rfl, rfl, rfl, by decide +kernel, rfl, by decide +kernel, by decide +kernel⟩
abbrev s_whole_root : Stmt := topS 2
abbrev n_whole_root : List Str := ["number", "found", "closer"]
theorem sc_whole_root : FnScope n_whole_root ["number"] (defScope s_whole_root) := ⟨rfl, rfl, rfl, by decide +kernel, rfl, by decide +kernel, by decide +kernel⟩
abbrev s_is_likely : Stmt := topS 4
abbrev n_is_likely : List Str := ["number", "odd", "twos", "base", "turn", "passed", "_"]
theorem sc_is_likely : FnScope n_is_likely ["number"] (defScope s_is_likely) := ⟨rfl, rfl, rfl, by decide +kernel, rfl, by decide +kernel, by decide +kernel⟩
abbrev s_enough : Stmt := topS 5
abbrev n_enough : List Str := ["number", "side"]
theorem sc_enough : FnScope n_enough ["number"] (defScope s_enough) := ⟨rfl, rfl, rfl, by decide +kernel, rfl, by decide +kernel, by decide +kernel⟩
abbrev s_curve_at : Stmt := topS 6
abbrev n_curve_at : List Str := ["number", "place", "x", "y", "a", "b"]
theorem sc_curve_at : FnScope n_curve_at ["number", "place"] (defScope s_curve_at) := ⟨rfl, rfl, rfl, by decide +kernel, rfl, by decide +kernel, by decide +kernel⟩
abbrev s_primes_to : Stmt := topS 7
abbrev n_primes_to : List Str := ["limit", "found", "number", "item"]
theorem sc_primes_to : FnScope n_primes_to ["limit"] (defScope s_primes_to) := ⟨rfl, rfl, rfl, by decide +kernel, rfl, by decide +kernel, by decide +kernel⟩
abbrev s_l_law_tape : Stmt := topS 9
abbrev n_l_law_tape : List Str := ["script", "seed", "cell"]
theorem sc_l_law_tape : FnScope n_l_law_tape ["script"] (defScope s_l_law_tape) := ⟨rfl, rfl, rfl, by decide +kernel, rfl, by decide +kernel, by decide +kernel⟩
abbrev s_l_law_draw : Stmt := topS 10
abbrev n_l_law_draw : List Str := ["tape", "many", "cells", "number"]
theorem sc_l_law_draw : FnScope n_l_law_draw ["tape", "many"] (defScope s_l_law_draw) := ⟨rfl, rfl, rfl, by decide +kernel, rfl, by decide +kernel, by decide +kernel⟩
abbrev s_l_law_same : Stmt := topS 11
abbrev n_l_law_same : List Str := ["actual", "due", "k"]
theorem sc_l_law_same : FnScope n_l_law_same ["actual", "due"] (defScope s_l_law_same) := ⟨rfl, rfl, rfl, by decide +kernel, rfl, by decide +kernel, by decide +kernel⟩
abbrev s_l_law_divisor : Stmt := topS 12
abbrev n_l_law_divisor : List Str := ["one", "other"]
theorem sc_l_law_divisor : FnScope n_l_law_divisor ["one", "other"] (defScope s_l_law_divisor) := ⟨rfl, rfl, rfl, by decide +kernel, rfl, by decide +kernel, by decide +kernel⟩
abbrev s_l_law_is_prime : Stmt := topS 13
abbrev n_l_law_is_prime : List Str := ["number", "at"]
theorem sc_l_law_is_prime : FnScope n_l_law_is_prime ["number"] (defScope s_l_law_is_prime) := ⟨rfl, rfl, rfl, by decide +kernel, rfl, by decide +kernel, by decide +kernel⟩
abbrev s_l_law_is_enough : Stmt := topS 14
abbrev n_l_law_is_enough : List Str := ["number", "least", "side"]
theorem sc_l_law_is_enough : FnScope n_l_law_is_enough ["number", "least"] (defScope s_l_law_is_enough) := ⟨rfl, rfl, rfl, by decide +kernel, rfl, by decide +kernel, by decide +kernel⟩
abbrev s_l_law_sieve : Stmt := topS 15
abbrev n_l_law_sieve : List Str := ["limit", "out", "found", "number", "turn"]
theorem sc_l_law_sieve : FnScope n_l_law_sieve ["limit"] (defScope s_l_law_sieve) := ⟨rfl, rfl, rfl, by decide +kernel, rfl, by decide +kernel, by decide +kernel⟩
abbrev s_law : Stmt := topS 16
abbrev n_law : List Str := ["script", "tape", "turn", "number", "least", "odd", "place", "x", "y", "a", "due", "limit"]
theorem sc_law : FnScope n_law ["script"] (defScope s_law) := ⟨rfl, rfl, rfl, by decide +kernel, rfl, by decide +kernel, by decide +kernel⟩
def t_power_1 : Et := (tCmpF gGt (fun i j => iLt j i) (eVarF 1) (eLit (.int 0)))
def b_power_2 : Sv := (sSeqF (sIfF (tCmpF gEq iEq (eBin gAnd (eVarF 1) (eLit (.int 1))) (eLit (.int 1))) (sSetF 3 (eBinF gMod cPosF oMod (eBinF gMul cMulF oMul (eVarF 3) (eVarF 0)) (eVarF 2))) sPass)
    (sSeqF (sSetF 0 (eBinF gMod cPosF oMod (eBinF gMul cMulF oMul (eVarF 0) (eVarF 0)) (eVarF 2)))
    (sSetF 1 (eBin gShr (eVarF 1) (eLit (.int 1))))))
def m_power : Fn := frM 4 (sSeqF (sSetF 3 (eBinF gMod cPosF oMod (eLit (.int 1)) (eVarF 2)))
    (sSeqF (sSetF 0 (eBinF gMod cPosF oMod (eVarF 0) (eVarF 2)))
    (sSeqF (sWhileF t_power_1 b_power_2 FU)
    (sFr (sRet (eVarF 3))))))
theorem ok_power {P : Program} {w : World} {K : PySem.W.Frag} {mg : Str → Option Value} {base : Heap} {c : DC} (D : DefAt K mg "power" s_power ["base", "exponent", "modulus"])   : FnAt P w K mg base c "power" 1 3 m_power := FnAt.fr (fn_at D sc_power fun f cdv A outer s H E G =>
  (pssC (sSeqF_eq _ _) (psd_cons (psC (sSetF_eq _ _) (psd_set (i := 3) G.nd rfl (Or.inl rfl) (peC (eBinF_eq binMod _ _) (pd_op op_modA opd_mod (pd_lit pe_int fun _ _ => .int _) (peC (eVarF_eq 2) (pd_pv 2 (pv 2)))))))
    (pssC (sSeqF_eq _ _) (psd_cons (psC (sSetF_eq _ _) (psd_set (i := 0) G.nd rfl (Or.inl rfl) (peC (eBinF_eq binMod _ _) (pd_op op_modA opd_mod (peC (eVarF_eq 0) (pd_pv 0 (pv 0))) (peC (eVarF_eq 2) (pd_pv 2 (pv 2)))))))
    (pssC (sSeqF_eq _ _) (psd_cons (psC (sWhileF_eq _ _ _) (psd_while FU G.po (ptC (tCmpF_eq cmpGt _ _) (pdt_cmp op_gt opd_gt (peC (eVarF_eq 1) (pd_pv 1 (pv 1))) (pd_lit pe_int fun _ _ => .int _) (nomark _))) (pssC (sSeqF_eq _ _) (psd_cons (psC (sIfF_eq _ _ _) (psd_if (ptC (tCmpF_eq cmpEq _ _) (pdt_cmp (op_eqA G.rm) opd_eq (pd_op op_and opd_and (peC (eVarF_eq 1) (pd_pv 1 (pv 1))) (pd_lit pe_int fun _ _ => .int _)) (pd_lit pe_int fun _ _ => .int _) (nomark _))) (psd_one (psC (sSetF_eq _ _) (psd_set (i := 3) G.nd rfl (Or.inl rfl) (peC (eBinF_eq binMod _ _) (pd_op op_modA opd_mod (peC (eBinF_eq binMul _ _) (pd_op op_mulA opd_mul (peC (eVarF_eq 3) (pd_pv 3 (pv 3))) (peC (eVarF_eq 0) (pd_pv 0 (pv 0))))) (peC (eVarF_eq 2) (pd_pv 2 (pv 2)))))))) psd_nil))
    (pssC (sSeqF_eq _ _) (psd_cons (psC (sSetF_eq _ _) (psd_set (i := 0) G.nd rfl (Or.inl rfl) (peC (eBinF_eq binMod _ _) (pd_op op_modA opd_mod (peC (eBinF_eq binMul _ _) (pd_op op_mulA opd_mul (peC (eVarF_eq 0) (pd_pv 0 (pv 0))) (peC (eVarF_eq 0) (pd_pv 0 (pv 0))))) (peC (eVarF_eq 2) (pd_pv 2 (pv 2)))))))
    (psd_one (psC (sSetF_eq _ _) (psd_set (i := 1) G.nd rfl (Or.inl rfl) (pd_op op_shr opd_shr (peC (eVarF_eq 1) (pd_pv 1 (pv 1))) (pd_lit pe_int fun _ _ => .int _)))))))))))
    (psd_one (psFr (psd_ret (peC (eVarF_eq 3) (pd_pv 3 (pv 3)))))))))))))
def t_whole_root_1 : Et := (tOf (eLit (.bl true)))
def b_whole_root_2 : Sv := (sSeqF (sSetF 2 (eBinF gDiv cDivF oDiv (eBinF gAdd cYes oAdd (eVarF 1) (eBinF gDiv cDivF oDiv (eVarF 0) (eVarF 1))) (eLit (.int 2))))
    (sSeqF (sIfF (tCmpF gGe (fun i j => iLe j i) (eVarF 2) (eVarF 1)) (sFr (sRet (eVarF 1))) sPass)
    (sSetF 1 (eVarF 2))))
def m_whole_root : Fn := frM 3 (sSeqF (sIfF (tCmpF gLt iLt (eVarF 0) (eLit (.int 2))) (sFr (sRet (eVarF 0))) sPass)
    (sSeqF (sSetF 1 (eBin gShl (eLit (.int 1)) (eBinF gDiv cDivF oDiv (eBinF gAdd cYes oAdd (eUnF gBits (eVarF 0)) (eLit (.int 1))) (eLit (.int 2)))))
    (sWhileF t_whole_root_1 b_whole_root_2 FU)))
theorem ok_whole_root {P : Program} {w : World} {K : PySem.W.Frag} {mg : Str → Option Value} {base : Heap} {c : DC} (D : DefAt K mg "whole_root" s_whole_root ["number"])   : FnAt P w K mg base c "whole_root" 1 1 m_whole_root := FnAt.fr (fn_at D sc_whole_root fun f cdv A outer s H E G =>
  (pssC (sSeqF_eq _ _) (psd_cons (psC (sIfF_eq _ _ _) (psd_if (ptC (tCmpF_eq cmpLt _ _) (pdt_cmp op_lt opd_lt (peC (eVarF_eq 0) (pd_pv 0 (pv 0))) (pd_lit pe_int fun _ _ => .int _) (nomark _))) (psd_one (psFr (psd_ret (peC (eVarF_eq 0) (pd_pv 0 (pv 0)))))) psd_nil))
    (pssC (sSeqF_eq _ _) (psd_cons (psC (sSetF_eq _ _) (psd_set (i := 1) G.nd rfl (Or.inl rfl) (pd_op op_shl opd_shl (pd_lit pe_int fun _ _ => .int _) (peC (eBinF_eq binDiv _ _) (pd_op op_divA opd_div (peC (eBinF_eq binAdd _ _) (pd_op op_addA opd_add (peC (eUnF_eq _ _) (pd_bits (peC (eVarF_eq 0) (pd_pv 0 (pv 0))))) (pd_lit pe_int fun _ _ => .int _))) (pd_lit pe_int fun _ _ => .int _))))))
    (psd_one (psC (sWhileF_eq _ _ _) (psd_while FU G.po (pdt_truth (pd_lit pe_bl fun _ _ => .bl _) (by intro _; rfl)) (pssC (sSeqF_eq _ _) (psd_cons (psC (sSetF_eq _ _) (psd_set (i := 2) G.nd rfl (Or.inl rfl) (peC (eBinF_eq binDiv _ _) (pd_op op_divA opd_div (peC (eBinF_eq binAdd _ _) (pd_op op_addA opd_add (peC (eVarF_eq 1) (pd_pv 1 (pv 1))) (peC (eBinF_eq binDiv _ _) (pd_op op_divA opd_div (peC (eVarF_eq 0) (pd_pv 0 (pv 0))) (peC (eVarF_eq 1) (pd_pv 1 (pv 1))))))) (pd_lit pe_int fun _ _ => .int _)))))
    (pssC (sSeqF_eq _ _) (psd_cons (psC (sIfF_eq _ _ _) (psd_if (ptC (tCmpF_eq cmpGe _ _) (pdt_cmp op_ge opd_ge (peC (eVarF_eq 2) (pd_pv 2 (pv 2))) (peC (eVarF_eq 1) (pd_pv 1 (pv 1))) (nomark _))) (psd_one (psFr (psd_ret (peC (eVarF_eq 1) (pd_pv 1 (pv 1)))))) psd_nil))
    (psd_one (psC (sSetF_eq _ _) (psd_set (i := 1) G.nd rfl (Or.inl rfl) (peC (eVarF_eq 2) (pd_pv 2 (pv 2))))))))))))))))))
def t_is_likely_1 : Et := (tCmpF gEq iEq (eBin gAnd (eVarF 1) (eLit (.int 1))) (eLit (.int 0)))
def b_is_likely_2 : Sv := (sF 2 (sF 1 (sPar 1 2 (aConsF (eBin gShr (eVarF 1) (eLit (.int 1))) (aConsF (eBinF gAdd cYes oAdd (eVarF 2) (eLit (.int 1))) aNil)))))
def b_is_likely_3 : Sv := (sSeqF (sSetF 4 (eBinF gMod cPosF oMod (eBinF gMul cMulF oMul (eVarF 4) (eVarF 4)) (eVarF 0)))
    (sSetF 5 (eOr' (eVarF 5) (eCmpF gEq iEq (eVarF 4) (eBinF gSub cYes oSub (eVarF 0) (eLit (.int 1)))))))
def b_is_likely_4 : Sv := (sSeqF (sIfF (tCmpF gEq iEq (eBinF gMod cPosF oMod (eVarF 0) (eVarF 3)) (eLit (.int 0))) (sFr (sRet (eCmpF gEq iEq (eVarF 0) (eVarF 3)))) sPass)
    (sSeqF (sSetF 4 (eCallF m_power (aConsF (eVarF 3) (aConsF (eVarF 1) (aConsF (eVarF 0) aNil)))))
    (sSeqF (sSetF 5 (eBin gIn (eVarF 4) (eTupF (aConsF (eLit (.int 1)) (aConsF (eBinF gSub cYes oSub (eVarF 0) (eLit (.int 1))) aNil)))))
    (sSeqF (sForF (agN 6) (iRange1 (aConsF (eBinF gSub cYes oSub (eVarF 2) (eLit (.int 1))) aNil)) b_is_likely_3)
    (sIfF (tNotF (tOf (eVarF 5))) (sFr (sRet (eLit (.bl false)))) sPass)))))
def m_is_likely : Fn := frM 7 (sSeqF (sF 2 (sF 1 (sPar 1 2 (aConsF (eBinF gSub cYes oSub (eVarF 0) (eLit (.int 1))) (aConsF (eLit (.int 0)) aNil)))))
    (sSeqF (sWhileF t_is_likely_1 b_is_likely_2 FU)
    (sSeqF (sForF (agN 3) (iOf (eTupF (aConsF (eLit (.int 2)) (aConsF (eLit (.int 3)) (aConsF (eLit (.int 5)) (aConsF (eLit (.int 7)) (aConsF (eLit (.int 11)) (aConsF (eLit (.int 13)) aNil)))))))) b_is_likely_4)
    (sFr (sRet (eLit (.bl true)))))))
theorem ok_is_likely {P : Program} {w : World} {K : PySem.W.Frag} {mg : Str → Option Value} {base : Heap} {c : DC} (D : DefAt K mg "is_likely" s_is_likely ["number"]) (h_power : FnAt P w K mg base c "power" 1 3 m_power) (f_range : mg "range" = none) : FnAt P w K mg base c "is_likely" 2 1 m_is_likely := FnAt.fr (fn_at D sc_is_likely fun f cdv A outer s H E G =>
  (pssC (sSeqF_eq _ _) (psd_cons (psF (psF (psd_par (i := 1) (j := 2) G.calm G.nd rfl rfl (by decide) rfl rfl (paC (aConsF_eq _ _) (pda_cons (peC (eBinF_eq binSub _ _) (pd_op op_sub opd_sub (peC (eVarF_eq 0) (pd_pv 0 (pv 0))) (pd_lit pe_int fun _ _ => .int _))) (paC (aConsF_eq _ _) (pda_cons (pd_lit pe_int fun _ _ => .int _) pda_nil)))) (by rfl))))
    (pssC (sSeqF_eq _ _) (psd_cons (psC (sWhileF_eq _ _ _) (psd_while FU G.po (ptC (tCmpF_eq cmpEq _ _) (pdt_cmp (op_eqA G.rm) opd_eq (pd_op op_and opd_and (peC (eVarF_eq 1) (pd_pv 1 (pv 1))) (pd_lit pe_int fun _ _ => .int _)) (pd_lit pe_int fun _ _ => .int _) (nomark _))) (psd_one (psF (psF (psd_par (i := 1) (j := 2) G.calm G.nd rfl rfl (by decide) rfl rfl (paC (aConsF_eq _ _) (pda_cons (pd_op op_shr opd_shr (peC (eVarF_eq 1) (pd_pv 1 (pv 1))) (pd_lit pe_int fun _ _ => .int _)) (paC (aConsF_eq _ _) (pda_cons (peC (eBinF_eq binAdd _ _) (pd_op op_addA opd_add (peC (eVarF_eq 2) (pd_pv 2 (pv 2))) (pd_lit pe_int fun _ _ => .int _))) pda_nil)))) (by rfl)))))))
    (pssC (sSeqF_eq _ _) (psd_cons (psC (sForF_eq _ _ _) (psd_for G.po G.calm (pid_of (peC (eTupF_eq _) (pd_tup (paC (aConsF_eq _ _) (pda_cons (pd_lit pe_int fun _ _ => .int _) (paC (aConsF_eq _ _) (pda_cons (pd_lit pe_int fun _ _ => .int _) (paC (aConsF_eq _ _) (pda_cons (pd_lit pe_int fun _ _ => .int _) (paC (aConsF_eq _ _) (pda_cons (pd_lit pe_int fun _ _ => .int _) (paC (aConsF_eq _ _) (pda_cons (pd_lit pe_int fun _ _ => .int _) (paC (aConsF_eq _ _) (pda_cons (pd_lit pe_int fun _ _ => .int _) pda_nil)))))))))))) (alnC (aConsF_eq _ _) (aln_cons (alnC (aConsF_eq _ _) (aln_cons (alnC (aConsF_eq _ _) (aln_cons (alnC (aConsF_eq _ _) (aln_cons (alnC (aConsF_eq _ _) (aln_cons (alnC (aConsF_eq _ _) (aln_cons aln_nil))))))))))))))) (pgd_name (i := 3) G.nd rfl (by first | exact Or.inl rfl | exact Or.inr rfl)) (pssC (sSeqF_eq _ _) (psd_cons (psC (sIfF_eq _ _ _) (psd_if (ptC (tCmpF_eq cmpEq _ _) (pdt_cmp (op_eqA G.rm) opd_eq (peC (eBinF_eq binMod _ _) (pd_op op_modA opd_mod (peC (eVarF_eq 0) (pd_pv 0 (pv 0))) (peC (eVarF_eq 3) (pd_pv 3 (pv 3))))) (pd_lit pe_int fun _ _ => .int _) (nomark _))) (psd_one (psFr (psd_ret (peC (eCmpF_eq cmpEq _ _) (pd_cmp (op_eqA G.rm) opd_eq (peC (eVarF_eq 0) (pd_pv 0 (pv 0))) (peC (eVarF_eq 3) (pd_pv 3 (pv 3))) (nomark _)))))) psd_nil))
    (pssC (sSeqF_eq _ _) (psd_cons (psC (sSetF_eq _ _) (psd_set (i := 4) G.nd rfl (Or.inl rfl) (peC (eCallF_eq _ _) (pd_callF h_power (by omega) G.rm (by rfl) G.tk (paC (aConsF_eq _ _) (pda_cons (peC (eVarF_eq 3) (pd_pv 3 (pv 3))) (paC (aConsF_eq _ _) (pda_cons (peC (eVarF_eq 1) (pd_pv 1 (pv 1))) (paC (aConsF_eq _ _) (pda_cons (peC (eVarF_eq 0) (pd_pv 0 (pv 0))) pda_nil)))))) (alnC (aConsF_eq _ _) (aln_cons (alnC (aConsF_eq _ _) (aln_cons (alnC (aConsF_eq _ _) (aln_cons aln_nil))))))))))
    (pssC (sSeqF_eq _ _) (psd_cons (psC (sSetF_eq _ _) (psd_set (i := 5) G.nd rfl (Or.inl rfl) (pd_cmp (op_inA G.rm) opd_in (peC (eVarF_eq 4) (pd_pv 4 (pv 4))) (peC (eTupF_eq _) (pd_tup (paC (aConsF_eq _ _) (pda_cons (pd_lit pe_int fun _ _ => .int _) (paC (aConsF_eq _ _) (pda_cons (peC (eBinF_eq binSub _ _) (pd_op op_sub opd_sub (peC (eVarF_eq 0) (pd_pv 0 (pv 0))) (pd_lit pe_int fun _ _ => .int _))) pda_nil)))) (alnC (aConsF_eq _ _) (aln_cons (alnC (aConsF_eq _ _) (aln_cons aln_nil)))))) (by rfl))))
    (pssC (sSeqF_eq _ _) (psd_cons (psC (sForF_eq _ _ _) (psd_for G.po G.calm (pid_range1 (by rfl) f_range (paC (aConsF_eq _ _) (pda_cons (peC (eBinF_eq binSub _ _) (pd_op op_sub opd_sub (peC (eVarF_eq 2) (pd_pv 2 (pv 2))) (pd_lit pe_int fun _ _ => .int _))) pda_nil))) (pgd_name (i := 6) G.nd rfl (by first | exact Or.inl rfl | exact Or.inr rfl)) (pssC (sSeqF_eq _ _) (psd_cons (psC (sSetF_eq _ _) (psd_set (i := 4) G.nd rfl (Or.inl rfl) (peC (eBinF_eq binMod _ _) (pd_op op_modA opd_mod (peC (eBinF_eq binMul _ _) (pd_op op_mulA opd_mul (peC (eVarF_eq 4) (pd_pv 4 (pv 4))) (peC (eVarF_eq 4) (pd_pv 4 (pv 4))))) (peC (eVarF_eq 0) (pd_pv 0 (pv 0)))))))
    (psd_one (psC (sSetF_eq _ _) (psd_set (i := 5) G.nd rfl (Or.inl rfl) (pd_or (peC (eVarF_eq 5) (pd_pv 5 (pv 5))) (pd_one (peC (eCmpF_eq cmpEq _ _) (pd_cmp (op_eqA G.rm) opd_eq (peC (eVarF_eq 4) (pd_pv 4 (pv 4))) (peC (eBinF_eq binSub _ _) (pd_op op_sub opd_sub (peC (eVarF_eq 0) (pd_pv 0 (pv 0))) (pd_lit pe_int fun _ _ => .int _))) (nomark _))))))))))))
    (psd_one (psC (sIfF_eq _ _ _) (psd_if (ptC (tNotF_eq _) (pdt_not (pdt_truth (peC (eVarF_eq 5) (pd_pv 5 (pv 5))) (by intro _; rfl)))) (psd_one (psFr (psd_ret (pd_lit pe_bl fun _ _ => .bl _)))) psd_nil)))))))))))))
    (psd_one (psFr (psd_ret (pd_lit pe_bl fun _ _ => .bl _)))))))))))
def m_enough : Fn := frM 2 (sSeqF (sSetF 1 (eBinF gAdd cYes oAdd (eCallF m_whole_root (aConsF (eCallF m_whole_root (aConsF (eVarF 0) aNil)) aNil)) (eLit (.int 2))))
    (sFr (sRet (eBinF gMul cMulF oMul (eVarF 1) (eVarF 1)))))
theorem ok_enough {P : Program} {w : World} {K : PySem.W.Frag} {mg : Str → Option Value} {base : Heap} {c : DC} (D : DefAt K mg "enough" s_enough ["number"]) (h_whole_root : FnAt P w K mg base c "whole_root" 1 1 m_whole_root)  : FnAt P w K mg base c "enough" 2 1 m_enough := FnAt.fr (fn_at D sc_enough fun f cdv A outer s H E G =>
  (pssC (sSeqF_eq _ _) (psd_cons (psC (sSetF_eq _ _) (psd_set (i := 1) G.nd rfl (Or.inl rfl) (peC (eBinF_eq binAdd _ _) (pd_op op_addA opd_add (peC (eCallF_eq _ _) (pd_callF h_whole_root (by omega) G.rm (by rfl) G.tk (paC (aConsF_eq _ _) (pda_cons (peC (eCallF_eq _ _) (pd_callF h_whole_root (by omega) G.rm (by rfl) G.tk (paC (aConsF_eq _ _) (pda_cons (peC (eVarF_eq 0) (pd_pv 0 (pv 0))) pda_nil)) (alnC (aConsF_eq _ _) (aln_cons aln_nil)))) pda_nil)) (alnC (aConsF_eq _ _) (aln_cons aln_nil)))) (pd_lit pe_int fun _ _ => .int _)))))
    (psd_one (psFr (psd_ret (peC (eBinF_eq binMul _ _) (pd_op op_mulA opd_mul (peC (eVarF_eq 1) (pd_pv 1 (pv 1))) (peC (eVarF_eq 1) (pd_pv 1 (pv 1)))))))))))
def m_curve_at : Fn := frM 6 (sSeqF (sF 4 (sF 3 (sF 2 (sPar3 2 3 4 (aConsF (eBinF gAdd cYes oAdd (eBinF gMod cPosF oMod (eVarF 1) (eLit (.int 97))) (eLit (.int 1))) (aConsF (eBinF gAdd cYes oAdd (eBinF gDiv cDivF oDiv (eVarF 1) (eLit (.int 97))) (eLit (.int 2))) (aConsF (eBinF gAdd cYes oAdd (eBinF gMul cMulF oMul (eVarF 1) (eLit (.int 7))) (eLit (.int 1))) aNil)))))))
    (sSeqF (sSetF 5 (eBinF gMod cPosF oMod (eBinF gSub cYes oSub (eBinF gSub cYes oSub (eBinF gMul cMulF oMul (eVarF 3) (eVarF 3)) (eBinF gMul cMulF oMul (eBinF gMul cMulF oMul (eVarF 2) (eVarF 2)) (eVarF 2))) (eBinF gMul cMulF oMul (eVarF 4) (eVarF 2))) (eVarF 0)))
    (sFr (sRet (eTupF (aConsF (eBinF gMod cPosF oMod (eVarF 4) (eVarF 0)) (aConsF (eVarF 5) (aConsF (eTupF (aConsF (eBinF gMod cPosF oMod (eVarF 2) (eVarF 0)) (aConsF (eBinF gMod cPosF oMod (eVarF 3) (eVarF 0)) aNil))) aNil))))))))
theorem ok_curve_at {P : Program} {w : World} {K : PySem.W.Frag} {mg : Str → Option Value} {base : Heap} {c : DC} (D : DefAt K mg "curve_at" s_curve_at ["number", "place"])   : FnAt P w K mg base c "curve_at" 1 2 m_curve_at := FnAt.fr (fn_at D sc_curve_at fun f cdv A outer s H E G =>
  (pssC (sSeqF_eq _ _) (psd_cons (psF (psF (psF (psd_par3 (i := 2) (j := 3) (l := 4) G.calm G.nd rfl rfl rfl (by decide) (by decide) (by decide) (ps_par3 G.calm G.nd rfl rfl rfl (by decide) (by decide) (by decide) rfl rfl rfl (paC (aConsF_eq _ _) (pda_cons (peC (eBinF_eq binAdd _ _) (pd_op op_addA opd_add (peC (eBinF_eq binMod _ _) (pd_op op_modA opd_mod (peC (eVarF_eq 1) (pd_pv 1 (pv 1))) (pd_lit pe_int fun _ _ => .int _))) (pd_lit pe_int fun _ _ => .int _))) (paC (aConsF_eq _ _) (pda_cons (peC (eBinF_eq binAdd _ _) (pd_op op_addA opd_add (peC (eBinF_eq binDiv _ _) (pd_op op_divA opd_div (peC (eVarF_eq 1) (pd_pv 1 (pv 1))) (pd_lit pe_int fun _ _ => .int _))) (pd_lit pe_int fun _ _ => .int _))) (paC (aConsF_eq _ _) (pda_cons (peC (eBinF_eq binAdd _ _) (pd_op op_addA opd_add (peC (eBinF_eq binMul _ _) (pd_op op_mulA opd_mul (peC (eVarF_eq 1) (pd_pv 1 (pv 1))) (pd_lit pe_int fun _ _ => .int _))) (pd_lit pe_int fun _ _ => .int _))) pda_nil)))))) (by rfl))))))
    (pssC (sSeqF_eq _ _) (psd_cons (psC (sSetF_eq _ _) (psd_set (i := 5) G.nd rfl (Or.inl rfl) (peC (eBinF_eq binMod _ _) (pd_op op_modA opd_mod (peC (eBinF_eq binSub _ _) (pd_op op_sub opd_sub (peC (eBinF_eq binSub _ _) (pd_op op_sub opd_sub (peC (eBinF_eq binMul _ _) (pd_op op_mulA opd_mul (peC (eVarF_eq 3) (pd_pv 3 (pv 3))) (peC (eVarF_eq 3) (pd_pv 3 (pv 3))))) (peC (eBinF_eq binMul _ _) (pd_op op_mulA opd_mul (peC (eBinF_eq binMul _ _) (pd_op op_mulA opd_mul (peC (eVarF_eq 2) (pd_pv 2 (pv 2))) (peC (eVarF_eq 2) (pd_pv 2 (pv 2))))) (peC (eVarF_eq 2) (pd_pv 2 (pv 2))))))) (peC (eBinF_eq binMul _ _) (pd_op op_mulA opd_mul (peC (eVarF_eq 4) (pd_pv 4 (pv 4))) (peC (eVarF_eq 2) (pd_pv 2 (pv 2))))))) (peC (eVarF_eq 0) (pd_pv 0 (pv 0)))))))
    (psd_one (psFr (psd_ret (peC (eTupF_eq _) (pd_tup (paC (aConsF_eq _ _) (pda_cons (peC (eBinF_eq binMod _ _) (pd_op op_modA opd_mod (peC (eVarF_eq 4) (pd_pv 4 (pv 4))) (peC (eVarF_eq 0) (pd_pv 0 (pv 0))))) (paC (aConsF_eq _ _) (pda_cons (peC (eVarF_eq 5) (pd_pv 5 (pv 5))) (paC (aConsF_eq _ _) (pda_cons (peC (eTupF_eq _) (pd_tup (paC (aConsF_eq _ _) (pda_cons (peC (eBinF_eq binMod _ _) (pd_op op_modA opd_mod (peC (eVarF_eq 2) (pd_pv 2 (pv 2))) (peC (eVarF_eq 0) (pd_pv 0 (pv 0))))) (paC (aConsF_eq _ _) (pda_cons (peC (eBinF_eq binMod _ _) (pd_op op_modA opd_mod (peC (eVarF_eq 3) (pd_pv 3 (pv 3))) (peC (eVarF_eq 0) (pd_pv 0 (pv 0))))) pda_nil)))) (alnC (aConsF_eq _ _) (aln_cons (alnC (aConsF_eq _ _) (aln_cons aln_nil)))))) pda_nil)))))) (alnC (aConsF_eq _ _) (aln_cons (alnC (aConsF_eq _ _) (aln_cons (alnC (aConsF_eq _ _) (aln_cons aln_nil))))))))))))))))
def b_primes_to_1 : Sv := (sIfF (tBor (tOf (eBlt gAll (aConsF (eCompF (iOf (eVarF 1)) (agN 3) (tCmpF gLe iLe (eBinF gMul cMulF oMul (eVarF 3) (eVarF 3)) (eVarF 2)) (eCmpF gNe (fun i j => !(iEq i j)) (eBinF gMod cPosF oMod (eVarF 2) (eVarF 3)) (eLit (.int 0))) [3]) aNil)))) (sAppF 1 (eVarF 2)) sPass)
def m_primes_to : Fn := frM 4 (sSeqF (sF 1 (sOwn 1 (eLstF aNil)))
    (sSeqF (sForF (agN 2) (iRange2 (aConsF (eLit (.int 2)) (aConsF (eBinF gAdd cYes oAdd (eVarF 0) (eLit (.int 1))) aNil))) b_primes_to_1)
    (sFr (sRet (eBor (eBlt gTuple (aConsF (eVarF 1) aNil)))))))
theorem ok_primes_to {P : Program} {w : World} {K : PySem.W.Frag} {mg : Str → Option Value} {base : Heap} {c : DC} (D : DefAt K mg "primes_to" s_primes_to ["limit"])  (f_all : mg "all" = none) (f_range : mg "range" = none) (f_tuple : mg "tuple" = none) : FnAt P w K mg base c "primes_to" 1 1 m_primes_to := FnAt.fr (fn_at D sc_primes_to fun f cdv A outer s H E G =>
  (pssC (sSeqF_eq _ _) (psd_cons (psF (psd_own (i := 1) G.nd rfl (Or.inl rfl) (pnC (eLstF_eq _) (pdn_lst pda_nil aln_nil))))
    (pssC (sSeqF_eq _ _) (psd_cons (psC (sForF_eq _ _ _) (psd_for G.po G.calm (pid_range2 (by rfl) f_range (paC (aConsF_eq _ _) (pda_cons (pd_lit pe_int fun _ _ => .int _) (paC (aConsF_eq _ _) (pda_cons (peC (eBinF_eq binAdd _ _) (pd_op op_addA opd_add (peC (eVarF_eq 0) (pd_pv 0 (pv 0))) (pd_lit pe_int fun _ _ => .int _))) pda_nil))))) (pgd_name (i := 2) G.nd rfl (by first | exact Or.inl rfl | exact Or.inr rfl)) (psd_one (psC (sIfF_eq _ _ _) (psd_if (pdt_bor (pdt_truth (pd_callB (cr_all G.calm) calld_all (by rfl) f_all (by decide +kernel) (paC (aConsF_eq _ _) (pda_cons (pd_of_n (pnC (eCompF_eq _ _ _ _ _) (pdn_lc G.calm G.nd (pid_of (peC (eVarF_eq 1) (pd_pv 1 (pv 1)))) (blkOk_by (own := [("item", 3)]) (N := n_primes_to) (sc := defScope s_primes_to) (by decide +kernel)) (fun _ _ _ _ _ => (pgd_name (i := 3) G.nd rfl (by first | exact Or.inl rfl | exact Or.inr rfl))) (fun _ _ _ _ _ => (pts_one (ptC (tCmpF_eq cmpLe _ _) (pdt_cmp op_le opd_le (peC (eBinF_eq binMul _ _) (pd_op op_mulA opd_mul (peC (eVarF_eq 3) (pd_pv 3 (pv 3))) (peC (eVarF_eq 3) (pd_pv 3 (pv 3))))) (peC (eVarF_eq 2) (pd_pv 2 (pv 2))) (nomark _))))) (fun _ _ _ _ _ => (peC (eCmpF_eq cmpNe _ _) (pd_cmp (op_neA G.rm) opd_ne (peC (eBinF_eq binMod _ _) (pd_op op_modA opd_mod (peC (eVarF_eq 2) (pd_pv 2 (pv 2))) (peC (eVarF_eq 3) (pd_pv 3 (pv 3))))) (pd_lit pe_int fun _ _ => .int _) (nomark _)))) (by decide)))) pda_nil))) (by intro _; rfl))) (psd_one (psC (sAppF_eq _ _) (psd_app (i := 1) (pe_bm PySem.F.plainAttrs_list PySem.F.slot_list_append PySem.F.type_list_append mt_append (pv 1) (pa_cons (peC (eVarF_eq 2) (pd_pv 2 (pv 2))) pa_nil))))) psd_nil)))))
    (psd_one (psFr (psd_ret (pd_bor (pd_callTy call_tuple_of calld_tuple (by rfl) f_tuple (by decide +kernel) (paC (aConsF_eq _ _) (pda_cons (peC (eVarF_eq 1) (pd_pv 1 (pv 1))) pda_nil))))))))))))
def b_l_law_tape_1 : Sv := (sSetF 1 (eBinF gMod cPosF oMod (eBlt gInt (aConsF (eBinF gAdd cYes oAdd (eBinF gMul cMulF oMul (eVarF 1) (eLit (.int 31))) (eVarF 2)) aNil)) (eLit (.int 1000003))))
def m_l_law_tape : Fn := frM 3 (sSeqF (sSetF 1 (eLit (.int 7)))
    (sSeqF (sForF (agN 2) (iOf (eVarF 0)) b_l_law_tape_1)
    (sRetTape (eCompF (iOf (eVarF 0)) (agN 2) tYes' (eBlt gAbs (aConsF (eBlt gInt (aConsF (eVarF 2) aNil)) aNil)) [2]) (eBinF gAdd cYes oAdd (eVarF 1) (eLit (.int 1))))))
theorem ok_l_law_tape {P : Program} {w : World} {K : PySem.W.Frag} {mg : Str → Option Value} {base : Heap} {c : DC} (D : DefAt K mg "_law_tape" s_l_law_tape ["script"])  (f_abs : mg "abs" = none) (f_int : mg "int" = none) : FnAt P w K mg base c "_law_tape" 1 1 m_l_law_tape := FnAt.fr (fn_at D sc_l_law_tape fun f cdv A outer s H E G =>
  (pssC (sSeqF_eq _ _) (psd_cons (psC (sSetF_eq _ _) (psd_set (i := 1) G.nd rfl (Or.inl rfl) (pd_lit pe_int fun _ _ => .int _)))
    (pssC (sSeqF_eq _ _) (psd_cons (psC (sForF_eq _ _ _) (psd_for G.po G.calm (pid_of (peC (eVarF_eq 0) (pd_pv 0 (pv 0)))) (pgd_name (i := 2) G.nd rfl (by first | exact Or.inl rfl | exact Or.inr rfl)) (psd_one (psC (sSetF_eq _ _) (psd_set (i := 1) G.nd rfl (Or.inl rfl) (peC (eBinF_eq binMod _ _) (pd_op op_modA opd_mod (pd_callTy call_int1 calld_int (by rfl) f_int (by decide +kernel) (paC (aConsF_eq _ _) (pda_cons (peC (eBinF_eq binAdd _ _) (pd_op op_addA opd_add (peC (eBinF_eq binMul _ _) (pd_op op_mulA opd_mul (peC (eVarF_eq 1) (pd_pv 1 (pv 1))) (pd_lit pe_int fun _ _ => .int _))) (peC (eVarF_eq 2) (pd_pv 2 (pv 2))))) pda_nil))) (pd_lit pe_int fun _ _ => .int _))))))))
    (psd_one (psd_retTape (pnC (eCompF_eq _ _ _ _ _) (pdn_lc G.calm G.nd (pid_of (peC (eVarF_eq 0) (pd_pv 0 (pv 0)))) (blkOk_by (own := [("cell", 2)]) (N := n_l_law_tape) (sc := defScope s_l_law_tape) (by decide +kernel)) (fun _ _ _ _ _ => (pgd_name (i := 2) G.nd rfl (by first | exact Or.inl rfl | exact Or.inr rfl))) (fun _ _ _ _ _ => ptsd_nil) (fun _ _ _ _ _ => (pd_callB call_abs calld_abs (by rfl) f_abs (by decide +kernel) (paC (aConsF_eq _ _) (pda_cons (pd_callTy call_int1 calld_int (by rfl) f_int (by decide +kernel) (paC (aConsF_eq _ _) (pda_cons (peC (eVarF_eq 2) (pd_pv 2 (pv 2))) pda_nil))) pda_nil)))) (by decide))) (peC (eBinF_eq binAdd _ _) (pd_op op_addA opd_add (peC (eVarF_eq 1) (pd_pv 1 (pv 1))) (pd_lit pe_int fun _ _ => .int _))))))))))
abbrev m_l_law_draw : Fn := mDraw
theorem ok_l_law_draw {P : Program} {w : World} {K : PySem.W.Frag} {mg : Str → Option Value} {base : Heap} {c : DC} (D : DefAt K mg "_law_draw" s_l_law_draw ["tape", "many"]) (f_int : mg "int" = none) (f_len : mg "len" = none) : FnAt P w K mg base c "_law_draw" 1 2 m_l_law_draw := ok_draw D sc_l_law_draw fun f cdv A outer s H E G =>
  pss_cons (ps_set (i := 2) G.nd rfl (.inl rfl) (pe_ix ix_list (pv 0) pe_int (fun _ _ => rfl))) (pss_cons (ps_while G.po (PW.pt (pw_and (pt_cmpR op_gt (pe_callB call_len_seq (by rfl) f_len boot_len (pa_cons (pv 2) pa_nil)) pe_int (nomark _)) (pw_and1 (pt_cmpR op_eq (pe_ix ix_list (pv 2) pe_int (fun _ _ => rfl)) pe_int (nomark _))))) (pss_one (ps_expr (pe_bm PySem.F.plainAttrs_list PySem.F.slot_list_pop PySem.F.type_list_pop mt_popAt (pv 2) (pa_cons pe_int pa_nil))))) (pss_cons (ps_if (pt_cmpR op_gt (pe_callB call_len_seq (by rfl) f_len boot_len (pa_cons (pv 2) pa_nil)) pe_int (nomark _)) (pss_cons (ps_set (i := 3) G.nd rfl (.inl rfl) (pe_ix ix_list (pv 2) pe_int (fun _ _ => rfl))) (pss_cons (ps_asg (pe_op op_divA (pv 3) (pv 1)) (pg_sub (pv 2) pe_int set_list)) (pss_one (ps_ret (pe_op op_mod (pe_callTy call_int1 (by rfl) f_int boot_int (pa_cons (pv 3) pa_nil)) (pv 1)))))) pss_nil) (pss_cons (ps_asg (pe_op op_mod (pe_callTy call_int1 (by rfl) f_int boot_int (pa_cons (pe_op op_add (pe_op op_mul (pe_ix ix_list (pv 0) pe_int (fun _ _ => rfl)) pe_int) pe_int) pa_nil)) pe_int) (pg_sub (pv 0) pe_int set_list)) (pss_one (ps_ret (pe_op op_mod (pe_callTy call_int1 (by rfl) f_int boot_int (pa_cons (pe_op op_divA (pe_ix ix_list (pv 0) pe_int (fun _ _ => rfl)) pe_int) pa_nil)) (pv 1)))))))
def mb_l_law_same (m_rec : Fn) : Fn := frM 3 (sSeqF (sIfF (tCmpB gIs (eVarF 1) (eLit .non)) (sFr (sRet (eBin gIs (eVarF 0) (eLit .non)))) sPass)
    (sSeqF (sIfF (tOf (eUnF isBoolF (eVarF 1))) (sFr (sRet (eAnd' (eUnF isBoolF (eVarF 0)) (eCmpF gEq iEq (eVarF 0) (eVarF 1))))) sPass)
    (sSeqF (sIfF (tOf (eUnF isTupF (eVarF 1))) (sSeqF (sIfF (tOrF (tNotF (tOf (eUnF isTupF (eVarF 0)))) (tCmpF gNe (fun i j => !(iEq i j)) (eBlt gLen (aConsF (eVarF 0) aNil)) (eBlt gLen (aConsF (eVarF 1) aNil)))) (sFr (sRet (eLit (.bl false)))) sPass)
    (sFr (sRet (eBlt gAll (aConsF (eCompF (iRange1 (aConsF (eBlt gLen (aConsF (eVarF 1) aNil)) aNil)) (agN 2) tYes' (eCallF m_rec (aConsF (eBin gIdx (eVarF 0) (eVarF 2)) (aConsF (eBin gIdx (eVarF 1) (eVarF 2)) aNil))) [2]) aNil))))) sPass)
    (sSeqF (sIfF (tOf (eUnF isStrF (eVarF 1))) (sFr (sRet (eAnd' (eUnF isStrF (eVarF 0)) (eCmpF gEq iEq (eVarF 0) (eVarF 1))))) sPass)
    (sFr (sRet (eAnd' (eUnF isIntF (eVarF 0)) (eAnd' (eUnF gNot (eUnF isBoolF (eVarF 0))) (eCmpF gEq iEq (eVarF 0) (eVarF 1))))))))))
def m_l_law_same : Nat → Fn
  | 0 => mBad
  | d + 1 => mb_l_law_same (m_l_law_same d)
theorem okb_l_law_same {P : Program} {w : World} {K : PySem.W.Frag} {mg : Str → Option Value} {base : Heap} {c : DC} {d : Nat} {m_rec : Fn} (D : DefAt K mg "_law_same" s_l_law_same ["actual", "due"]) (h_l_law_same : FnAt P w K mg base c "_law_same" (0 + d) 2 m_rec)  (f_all : mg "all" = none) (f_bool : mg "bool" = none) (f_int : mg "int" = none) (f_isinstance : mg "isinstance" = none) (f_len : mg "len" = none) (f_range : mg "range" = none) (f_str : mg "str" = none) (f_tuple : mg "tuple" = none) : FnAt P w K mg base c "_law_same" (0 + d + 1) 2 (mb_l_law_same m_rec) := FnAt.fr (fn_at D sc_l_law_same fun f cdv A outer s H E G =>
  (pssC (sSeqF_eq _ _) (psd_cons (psC (sIfF_eq _ _ _) (psd_if (pdt_cmp op_isN opd_is (peC (eVarF_eq 1) (pd_pv 1 (pv 1))) (pd_lit pe_non fun _ _ => .non) (nomark _)) (psd_one (psFr (psd_ret (pd_cmp op_isN opd_is (peC (eVarF_eq 0) (pd_pv 0 (pv 0))) (pd_lit pe_non fun _ _ => .non) (nomark _))))) psd_nil))
    (pssC (sSeqF_eq _ _) (psd_cons (psC (sIfF_eq _ _ _) (psd_if (pdt_truth (peC ((eUnF_eq _ _).trans (by rw [← isT_bool])) (pd_isi kit_bool (by rfl) f_isinstance (by rfl) f_bool (by decide +kernel) (peC (eVarF_eq 1) (pd_pv 1 (pv 1))))) (by intro _; rfl)) (psd_one (psFr (psd_ret (pd_and (peC ((eUnF_eq _ _).trans (by rw [← isT_bool])) (pd_isi kit_bool (by rfl) f_isinstance (by rfl) f_bool (by decide +kernel) (peC (eVarF_eq 0) (pd_pv 0 (pv 0))))) (pd_one (peC (eCmpF_eq cmpEq _ _) (pd_cmp (op_eqA G.rm) opd_eq (peC (eVarF_eq 0) (pd_pv 0 (pv 0))) (peC (eVarF_eq 1) (pd_pv 1 (pv 1))) (nomark _)))))))) psd_nil))
    (pssC (sSeqF_eq _ _) (psd_cons (psC (sIfF_eq _ _ _) (psd_if (pdt_truth (peC ((eUnF_eq _ _).trans (by rw [← isT_tuple])) (pd_isi kit_tuple (by rfl) f_isinstance (by rfl) f_tuple (by decide +kernel) (peC (eVarF_eq 1) (pd_pv 1 (pv 1))))) (by intro _; rfl)) (pssC (sSeqF_eq _ _) (psd_cons (psC (sIfF_eq _ _ _) (psd_if (PW.pt (pwC (tOrF_eq _ _) (pdw_or (ptC (tNotF_eq _) (pdt_not (pdt_truth (peC ((eUnF_eq _ _).trans (by rw [← isT_tuple])) (pd_isi kit_tuple (by rfl) f_isinstance (by rfl) f_tuple (by decide +kernel) (peC (eVarF_eq 0) (pd_pv 0 (pv 0))))) (by intro _; rfl)))) (pdw_or1 (ptC (tCmpF_eq cmpNe _ _) (pdt_cmp (op_neA G.rm) opd_ne (pd_callB call_lenA calld_len (by rfl) f_len (by decide +kernel) (paC (aConsF_eq _ _) (pda_cons (peC (eVarF_eq 0) (pd_pv 0 (pv 0))) pda_nil))) (pd_callB call_lenA calld_len (by rfl) f_len (by decide +kernel) (paC (aConsF_eq _ _) (pda_cons (peC (eVarF_eq 1) (pd_pv 1 (pv 1))) pda_nil))) (nomark _))))))) (psd_one (psFr (psd_ret (pd_lit pe_bl fun _ _ => .bl _)))) psd_nil))
    (psd_one (psFr (psd_ret (pd_callB (cr_all G.calm) calld_all (by rfl) f_all (by decide +kernel) (paC (aConsF_eq _ _) (pda_cons (pd_of_n (pnC (eCompF_eq _ _ _ _ _) (pdn_lc G.calm G.nd (pid_range1 (by rfl) f_range (paC (aConsF_eq _ _) (pda_cons (pd_callB call_lenA calld_len (by rfl) f_len (by decide +kernel) (paC (aConsF_eq _ _) (pda_cons (peC (eVarF_eq 1) (pd_pv 1 (pv 1))) pda_nil))) pda_nil))) (blkOk_by (own := [("k", 2)]) (N := n_l_law_same) (sc := defScope s_l_law_same) (by decide +kernel)) (fun _ _ _ _ _ => (pgd_name (i := 2) G.nd rfl (by first | exact Or.inl rfl | exact Or.inr rfl))) (fun _ _ _ _ _ => ptsd_nil) (fun _ _ _ _ _ => (peC (eCallF_eq _ _) (pd_callF h_l_law_same (by omega) G.rm (by rfl) takes0 (paC (aConsF_eq _ _) (pda_cons (pd_idx (peC (eVarF_eq 0) (pd_pv 0 (pv 0))) (peC (eVarF_eq 2) (pd_pv 2 (pv 2))) (fun _ _ => rfl)) (paC (aConsF_eq _ _) (pda_cons (pd_idx (peC (eVarF_eq 1) (pd_pv 1 (pv 1))) (peC (eVarF_eq 2) (pd_pv 2 (pv 2))) (fun _ _ => rfl)) pda_nil)))) (alnC (aConsF_eq _ _) (aln_cons (alnC (aConsF_eq _ _) (aln_cons aln_nil))))))) (by decide)))) pda_nil)))))))) psd_nil))
    (pssC (sSeqF_eq _ _) (psd_cons (psC (sIfF_eq _ _ _) (psd_if (pdt_truth (peC ((eUnF_eq _ _).trans (by rw [← isT_str])) (pd_isi kit_str (by rfl) f_isinstance (by rfl) f_str (by decide +kernel) (peC (eVarF_eq 1) (pd_pv 1 (pv 1))))) (by intro _; rfl)) (psd_one (psFr (psd_ret (pd_and (peC ((eUnF_eq _ _).trans (by rw [← isT_str])) (pd_isi kit_str (by rfl) f_isinstance (by rfl) f_str (by decide +kernel) (peC (eVarF_eq 0) (pd_pv 0 (pv 0))))) (pd_one (peC (eCmpF_eq cmpEq _ _) (pd_cmp (op_eqA G.rm) opd_eq (peC (eVarF_eq 0) (pd_pv 0 (pv 0))) (peC (eVarF_eq 1) (pd_pv 1 (pv 1))) (nomark _)))))))) psd_nil))
    (psd_one (psFr (psd_ret (pd_and (peC ((eUnF_eq _ _).trans (by rw [← isT_int])) (pd_isi kit_int (by rfl) f_isinstance (by rfl) f_int (by decide +kernel) (peC (eVarF_eq 0) (pd_pv 0 (pv 0))))) (pd_and (peC (eUnF_eq _ _) (pd_not (peC ((eUnF_eq _ _).trans (by rw [← isT_bool])) (pd_isi kit_bool (by rfl) f_isinstance (by rfl) f_bool (by decide +kernel) (peC (eVarF_eq 0) (pd_pv 0 (pv 0))))))) (pd_one (peC (eCmpF_eq cmpEq _ _) (pd_cmp (op_eqA G.rm) opd_eq (peC (eVarF_eq 0) (pd_pv 0 (pv 0))) (peC (eVarF_eq 1) (pd_pv 1 (pv 1))) (nomark _))))))))))))))))))
theorem ok_l_law_same {P : Program} {w : World} {K : PySem.W.Frag} {mg : Str → Option Value} {base : Heap} {c : DC} (D : DefAt K mg "_law_same" s_l_law_same ["actual", "due"])  (f_all : mg "all" = none) (f_bool : mg "bool" = none) (f_int : mg "int" = none) (f_isinstance : mg "isinstance" = none) (f_len : mg "len" = none) (f_range : mg "range" = none) (f_str : mg "str" = none) (f_tuple : mg "tuple" = none) : ∀ d : Nat, FnAt P w K mg base c "_law_same" (0 + d) 2 (m_l_law_same d)
  | 0 => fn_bad D
  | d + 1 => okb_l_law_same D (ok_l_law_same D f_all f_bool f_int f_isinstance f_len f_range f_str f_tuple d) f_all f_bool f_int f_isinstance f_len f_range f_str f_tuple
def t_l_law_divisor_1 : Et := (tCmpF gNe (fun i j => !(iEq i j)) (eVarF 1) (eLit (.int 0)))
def b_l_law_divisor_2 : Sv := (sF 1 (sF 0 (sPar 0 1 (aConsF (eVarF 1) (aConsF (eBinF gMod cPosF oMod (eBlt gInt (aConsF (eVarF 0) aNil)) (eVarF 1)) aNil)))))
def m_l_law_divisor : Fn := frM 2 (sSeqF (sF 1 (sF 0 (sPar 0 1 (aConsF (eBlt gAbs (aConsF (eVarF 0) aNil)) (aConsF (eBlt gAbs (aConsF (eVarF 1) aNil)) aNil)))))
    (sSeqF (sWhileF t_l_law_divisor_1 b_l_law_divisor_2 FU)
    (sFr (sRet (eVarF 0)))))
theorem ok_l_law_divisor {P : Program} {w : World} {K : PySem.W.Frag} {mg : Str → Option Value} {base : Heap} {c : DC} (D : DefAt K mg "_law_divisor" s_l_law_divisor ["one", "other"])  (f_abs : mg "abs" = none) (f_int : mg "int" = none) : FnAt P w K mg base c "_law_divisor" 1 2 m_l_law_divisor := FnAt.fr (fn_at D sc_l_law_divisor fun f cdv A outer s H E G =>
  (pssC (sSeqF_eq _ _) (psd_cons (psF (psF (psd_par (i := 0) (j := 1) G.calm G.nd rfl rfl (by decide) rfl rfl (paC (aConsF_eq _ _) (pda_cons (pd_callB call_abs calld_abs (by rfl) f_abs (by decide +kernel) (paC (aConsF_eq _ _) (pda_cons (peC (eVarF_eq 0) (pd_pv 0 (pv 0))) pda_nil))) (paC (aConsF_eq _ _) (pda_cons (pd_callB call_abs calld_abs (by rfl) f_abs (by decide +kernel) (paC (aConsF_eq _ _) (pda_cons (peC (eVarF_eq 1) (pd_pv 1 (pv 1))) pda_nil))) pda_nil)))) (by rfl))))
    (pssC (sSeqF_eq _ _) (psd_cons (psC (sWhileF_eq _ _ _) (psd_while FU G.po (ptC (tCmpF_eq cmpNe _ _) (pdt_cmp (op_neA G.rm) opd_ne (peC (eVarF_eq 1) (pd_pv 1 (pv 1))) (pd_lit pe_int fun _ _ => .int _) (nomark _))) (psd_one (psF (psF (psd_par (i := 0) (j := 1) G.calm G.nd rfl rfl (by decide) rfl rfl (paC (aConsF_eq _ _) (pda_cons (peC (eVarF_eq 1) (pd_pv 1 (pv 1))) (paC (aConsF_eq _ _) (pda_cons (peC (eBinF_eq binMod _ _) (pd_op op_modA opd_mod (pd_callTy call_int1 calld_int (by rfl) f_int (by decide +kernel) (paC (aConsF_eq _ _) (pda_cons (peC (eVarF_eq 0) (pd_pv 0 (pv 0))) pda_nil))) (peC (eVarF_eq 1) (pd_pv 1 (pv 1))))) pda_nil)))) (by rfl)))))))
    (psd_one (psFr (psd_ret (peC (eVarF_eq 0) (pd_pv 0 (pv 0)))))))))))
def t_l_law_is_prime_1 : Et := (tCmpF gLe iLe (eBinF gMul cMulF oMul (eVarF 1) (eVarF 1)) (eVarF 0))
def b_l_law_is_prime_2 : Sv := (sSeqF (sIfF (tCmpF gEq iEq (eBinF gMul cMulF oMul (eBinF gDiv cDivF oDiv (eVarF 0) (eVarF 1)) (eVarF 1)) (eVarF 0)) (sFr (sRet (eLit (.bl false)))) sPass)
    (sSetF 1 (eBinF gAdd cYes oAdd (eVarF 1) (eLit (.int 2)))))
def m_l_law_is_prime : Fn := frM 2 (sSeqF (sIfF (tOrF (tCmpF gLt iLt (eVarF 0) (eLit (.int 4))) (tCmpF gEq iEq (eBinF gMul cMulF oMul (eBinF gDiv cDivF oDiv (eVarF 0) (eLit (.int 2))) (eLit (.int 2))) (eVarF 0))) (sFr (sRet (eBin gIn (eVarF 0) (eLstF (aConsF (eLit (.int 2)) (aConsF (eLit (.int 3)) aNil)))))) sPass)
    (sSeqF (sSetF 1 (eLit (.int 3)))
    (sSeqF (sWhileF t_l_law_is_prime_1 b_l_law_is_prime_2 FU)
    (sFr (sRet (eLit (.bl true)))))))
theorem ok_l_law_is_prime {P : Program} {w : World} {K : PySem.W.Frag} {mg : Str → Option Value} {base : Heap} {c : DC} (D : DefAt K mg "_law_is_prime" s_l_law_is_prime ["number"])   : FnAt P w K mg base c "_law_is_prime" 1 1 m_l_law_is_prime := FnAt.fr (fn_at D sc_l_law_is_prime fun f cdv A outer s H E G =>
  (pssC (sSeqF_eq _ _) (psd_cons (psC (sIfF_eq _ _ _) (psd_if (PW.pt (pwC (tOrF_eq _ _) (pdw_or (ptC (tCmpF_eq cmpLt _ _) (pdt_cmp op_lt opd_lt (peC (eVarF_eq 0) (pd_pv 0 (pv 0))) (pd_lit pe_int fun _ _ => .int _) (nomark _))) (pdw_or1 (ptC (tCmpF_eq cmpEq _ _) (pdt_cmp (op_eqA G.rm) opd_eq (peC (eBinF_eq binMul _ _) (pd_op op_mulA opd_mul (peC (eBinF_eq binDiv _ _) (pd_op op_divA opd_div (peC (eVarF_eq 0) (pd_pv 0 (pv 0))) (pd_lit pe_int fun _ _ => .int _))) (pd_lit pe_int fun _ _ => .int _))) (peC (eVarF_eq 0) (pd_pv 0 (pv 0))) (nomark _))))))) (psd_one (psFr (psd_ret (pd_cmp (op_inA G.rm) opd_in (peC (eVarF_eq 0) (pd_pv 0 (pv 0))) (pd_of_n (pnC (eLstF_eq _) (pdn_lst (paC (aConsF_eq _ _) (pda_cons (pd_lit pe_int fun _ _ => .int _) (paC (aConsF_eq _ _) (pda_cons (pd_lit pe_int fun _ _ => .int _) pda_nil)))) (alnC (aConsF_eq _ _) (aln_cons (alnC (aConsF_eq _ _) (aln_cons aln_nil))))))) (by rfl))))) psd_nil))
    (pssC (sSeqF_eq _ _) (psd_cons (psC (sSetF_eq _ _) (psd_set (i := 1) G.nd rfl (Or.inl rfl) (pd_lit pe_int fun _ _ => .int _)))
    (pssC (sSeqF_eq _ _) (psd_cons (psC (sWhileF_eq _ _ _) (psd_while FU G.po (ptC (tCmpF_eq cmpLe _ _) (pdt_cmp op_le opd_le (peC (eBinF_eq binMul _ _) (pd_op op_mulA opd_mul (peC (eVarF_eq 1) (pd_pv 1 (pv 1))) (peC (eVarF_eq 1) (pd_pv 1 (pv 1))))) (peC (eVarF_eq 0) (pd_pv 0 (pv 0))) (nomark _))) (pssC (sSeqF_eq _ _) (psd_cons (psC (sIfF_eq _ _ _) (psd_if (ptC (tCmpF_eq cmpEq _ _) (pdt_cmp (op_eqA G.rm) opd_eq (peC (eBinF_eq binMul _ _) (pd_op op_mulA opd_mul (peC (eBinF_eq binDiv _ _) (pd_op op_divA opd_div (peC (eVarF_eq 0) (pd_pv 0 (pv 0))) (peC (eVarF_eq 1) (pd_pv 1 (pv 1))))) (peC (eVarF_eq 1) (pd_pv 1 (pv 1))))) (peC (eVarF_eq 0) (pd_pv 0 (pv 0))) (nomark _))) (psd_one (psFr (psd_ret (pd_lit pe_bl fun _ _ => .bl _)))) psd_nil))
    (psd_one (psC (sSetF_eq _ _) (psd_set (i := 1) G.nd rfl (Or.inl rfl) (peC (eBinF_eq binAdd _ _) (pd_op op_addA opd_add (peC (eVarF_eq 1) (pd_pv 1 (pv 1))) (pd_lit pe_int fun _ _ => .int _))))))))))
    (psd_one (psFr (psd_ret (pd_lit pe_bl fun _ _ => .bl _)))))))))))
def m_l_law_is_enough : Fn := frM 3 (sSeqF (sSetF 2 (eBinF gSub cYes oSub (eBinF gAdd cYes oAdd (eBinF gAdd cYes oAdd (eBinF gMul cMulF oMul (eVarF 1) (eVarF 1)) (eBinF gMul cMulF oMul (eLit (.int 6)) (eVarF 1))) (eLit (.int 1))) (eVarF 0)))
    (sFr (sRet (eAnd' (eCmpF gGe (fun i j => iLe j i) (eVarF 1) (eLit (.int 1))) (eAnd' (eCmpF gGe (fun i j => iLe j i) (eVarF 2) (eLit (.int 0))) (eCmpF gGe (fun i j => iLe j i) (eBinF gMul cMulF oMul (eVarF 2) (eVarF 2)) (eBinF gMul cMulF oMul (eBinF gMul cMulF oMul (eBinF gMul cMulF oMul (eLit (.int 16)) (eVarF 1)) (eBinF gAdd cYes oAdd (eVarF 1) (eLit (.int 1)))) (eBinF gAdd cYes oAdd (eVarF 1) (eLit (.int 1))))))))))
theorem ok_l_law_is_enough {P : Program} {w : World} {K : PySem.W.Frag} {mg : Str → Option Value} {base : Heap} {c : DC} (D : DefAt K mg "_law_is_enough" s_l_law_is_enough ["number", "least"])   : FnAt P w K mg base c "_law_is_enough" 1 2 m_l_law_is_enough := FnAt.fr (fn_at D sc_l_law_is_enough fun f cdv A outer s H E G =>
  (pssC (sSeqF_eq _ _) (psd_cons (psC (sSetF_eq _ _) (psd_set (i := 2) G.nd rfl (Or.inl rfl) (peC (eBinF_eq binSub _ _) (pd_op op_sub opd_sub (peC (eBinF_eq binAdd _ _) (pd_op op_addA opd_add (peC (eBinF_eq binAdd _ _) (pd_op op_addA opd_add (peC (eBinF_eq binMul _ _) (pd_op op_mulA opd_mul (peC (eVarF_eq 1) (pd_pv 1 (pv 1))) (peC (eVarF_eq 1) (pd_pv 1 (pv 1))))) (peC (eBinF_eq binMul _ _) (pd_op op_mulA opd_mul (pd_lit pe_int fun _ _ => .int _) (peC (eVarF_eq 1) (pd_pv 1 (pv 1))))))) (pd_lit pe_int fun _ _ => .int _))) (peC (eVarF_eq 0) (pd_pv 0 (pv 0)))))))
    (psd_one (psFr (psd_ret (pd_and (peC (eCmpF_eq cmpGe _ _) (pd_cmp op_ge opd_ge (peC (eVarF_eq 1) (pd_pv 1 (pv 1))) (pd_lit pe_int fun _ _ => .int _) (nomark _))) (pd_and (peC (eCmpF_eq cmpGe _ _) (pd_cmp op_ge opd_ge (peC (eVarF_eq 2) (pd_pv 2 (pv 2))) (pd_lit pe_int fun _ _ => .int _) (nomark _))) (pd_one (peC (eCmpF_eq cmpGe _ _) (pd_cmp op_ge opd_ge (peC (eBinF_eq binMul _ _) (pd_op op_mulA opd_mul (peC (eVarF_eq 2) (pd_pv 2 (pv 2))) (peC (eVarF_eq 2) (pd_pv 2 (pv 2))))) (peC (eBinF_eq binMul _ _) (pd_op op_mulA opd_mul (peC (eBinF_eq binMul _ _) (pd_op op_mulA opd_mul (peC (eBinF_eq binMul _ _) (pd_op op_mulA opd_mul (pd_lit pe_int fun _ _ => .int _) (peC (eVarF_eq 1) (pd_pv 1 (pv 1))))) (peC (eBinF_eq binAdd _ _) (pd_op op_addA opd_add (peC (eVarF_eq 1) (pd_pv 1 (pv 1))) (pd_lit pe_int fun _ _ => .int _))))) (peC (eBinF_eq binAdd _ _) (pd_op op_addA opd_add (peC (eVarF_eq 1) (pd_pv 1 (pv 1))) (pd_lit pe_int fun _ _ => .int _))))) (nomark _))))))))))))
def b_l_law_sieve_1 : Sv := (sDputF 1 (eBinF gMul cMulF oMul (eVarF 3) (eVarF 4)) (eLit (.bl true)))
def b_l_law_sieve_2 : Sv := (sIfF (tBor (tCmpG gKnotF (eVarF 3) (eVarF 1))) (sSeqF (sAppF 2 (eVarF 3))
    (sForF (agN 4) (iRange2 (aConsF (eVarF 3) (aConsF (eBinF gAdd cYes oAdd (eBinF gDiv cDivF oDiv (eVarF 0) (eVarF 3)) (eLit (.int 1))) aNil))) b_l_law_sieve_1)) sPass)
def m_l_law_sieve : Fn := frM 5 (sSeqF (sF 2 (sF 1 (sParO true true 1 2 (eLit (.dk [])) (eLstF aNil))))
    (sSeqF (sForF (agN 3) (iRange2 (aConsF (eLit (.int 2)) (aConsF (eBinF gAdd cYes oAdd (eVarF 0) (eLit (.int 1))) aNil))) b_l_law_sieve_2)
    (sFr (sRet (eBor (eBlt gTuple (aConsF (eVarF 2) aNil)))))))
theorem ok_l_law_sieve {P : Program} {w : World} {K : PySem.W.Frag} {mg : Str → Option Value} {base : Heap} {c : DC} (D : DefAt K mg "_law_sieve" s_l_law_sieve ["limit"])  (f_range : mg "range" = none) (f_tuple : mg "tuple" = none) : FnAt P w K mg base c "_law_sieve" 1 1 m_l_law_sieve := FnAt.fr (fn_at D sc_l_law_sieve fun f cdv A outer s H E G =>
  (pssC (sSeqF_eq _ _) (psd_cons (psF (psF (psd_parO (i := 1) (j := 2) G.calm G.nd rfl rfl (by decide) rfl rfl (pdg_n pdn_dk) (pdg_n (pnC (eLstF_eq _) (pdn_lst pda_nil aln_nil))) (by rfl))))
    (pssC (sSeqF_eq _ _) (psd_cons (psC (sForF_eq _ _ _) (psd_for G.po G.calm (pid_range2 (by rfl) f_range (paC (aConsF_eq _ _) (pda_cons (pd_lit pe_int fun _ _ => .int _) (paC (aConsF_eq _ _) (pda_cons (peC (eBinF_eq binAdd _ _) (pd_op op_addA opd_add (peC (eVarF_eq 0) (pd_pv 0 (pv 0))) (pd_lit pe_int fun _ _ => .int _))) pda_nil))))) (pgd_name (i := 3) G.nd rfl (by first | exact Or.inl rfl | exact Or.inr rfl)) (psd_one (psC (sIfF_eq _ _ _) (psd_if (pdt_bor (ptC (tCmpG_eq gKnotF_eq _ _) (pdt_knot (hu_of G.rm) (peC (eVarF_eq 3) (pd_pv 3 (pv 3))) (peC (eVarF_eq 1) (pd_pv 1 (pv 1)))))) (pssC (sSeqF_eq _ _) (psd_cons (psC (sAppF_eq _ _) (psd_app (i := 2) (pe_bm PySem.F.plainAttrs_list PySem.F.slot_list_append PySem.F.type_list_append mt_append (pv 2) (pa_cons (peC (eVarF_eq 3) (pd_pv 3 (pv 3))) pa_nil))))
    (psd_one (psC (sForF_eq _ _ _) (psd_for G.po G.calm (pid_range2 (by rfl) f_range (paC (aConsF_eq _ _) (pda_cons (peC (eVarF_eq 3) (pd_pv 3 (pv 3))) (paC (aConsF_eq _ _) (pda_cons (peC (eBinF_eq binAdd _ _) (pd_op op_addA opd_add (peC (eBinF_eq binDiv _ _) (pd_op op_divA opd_div (peC (eVarF_eq 0) (pd_pv 0 (pv 0))) (peC (eVarF_eq 3) (pd_pv 3 (pv 3))))) (pd_lit pe_int fun _ _ => .int _))) pda_nil))))) (pgd_name (i := 4) G.nd rfl (by first | exact Or.inl rfl | exact Or.inr rfl)) (psd_one (psC (sDputF_eq _ _ _) (psd_dput (i := 1) (hu_of G.rm) (pv 1) (peC (eBinF_eq binMul _ _) (pd_op op_mulA opd_mul (peC (eVarF_eq 3) (pd_pv 3 (pv 3))) (peC (eVarF_eq 4) (pd_pv 4 (pv 4))))) (pd_lit pe_bl fun _ _ => .bl _))))))))) psd_nil)))))
    (psd_one (psFr (psd_ret (pd_bor (pd_callTy call_tuple_of calld_tuple (by rfl) f_tuple (by decide +kernel) (paC (aConsF_eq _ _) (pda_cons (peC (eVarF_eq 2) (pd_pv 2 (pv 2))) pda_nil))))))))))))
def t_law_1 : Et := (tCmpF gNe (fun i j => !(iEq i j)) (eCallF m_l_law_divisor (aConsF (eVarF 3) (aConsF (eLit (.int 6)) aNil))) (eLit (.int 1)))
def b_law_2 : Sv := (sSetF 3 (eBinF gAdd cYes oAdd (eVarF 3) (eLit (.int 1))))
def b_law_3 : Sv := (sSeqF (sSetF 3 (eIfF (tCmpF gLt iLt (eVarF 2) (eLit (.int 4))) (eBinF gAdd cYes oAdd (eLit (.int 5)) (eCallF m_l_law_draw (aConsF (eVarF 1) (aConsF (eLit (.int 9000)) aNil)))) (eBinF gAdd cYes oAdd (eBin gPow (eLit (.int 10)) (eLit (.int 6))) (eCallF m_l_law_draw (aConsF (eVarF 1) (aConsF (eBin gPow (eLit (.int 10)) (eLit (.int 9))) aNil))))))
    (sSeqF (sSetF 4 (eCallF m_enough (aConsF (eVarF 3) aNil)))
    (sSeqF (sIfF (tOrF (tNotF (tOf (eUnF isIntF (eVarF 4)))) (tOrF (tOf (eUnF isBoolF (eVarF 4))) (tNotF (tOf (eCallF m_l_law_is_enough (aConsF (eVarF 3) (aConsF (eVarF 4) aNil))))))) (sFr (sRet (eLit (.bl false)))) sPass)
    (sSeqF (sSetF 5 (eBinF gAdd cYes oAdd (eLit (.int 5)) (eBinF gMul cMulF oMul (eLit (.int 2)) (eCallF m_l_law_draw (aConsF (eVarF 1) (aConsF (eLit (.int 4900)) aNil))))))
    (sSeqF (sIfF (tNotF (tOf (eCallF (m_l_law_same 4) (aConsF (eCallF m_is_likely (aConsF (eVarF 5) aNil)) (aConsF (eCallF m_l_law_is_prime (aConsF (eVarF 5) aNil)) aNil))))) (sFr (sRet (eLit (.bl false)))) sPass)
    (sSeqF (sSetF 3 (eBinF gAdd cYes oAdd (eVarF 3) (eLit (.int 1))))
    (sSeqF (sWhileF t_law_1 b_law_2 FU)
    (sSeqF (sSetF 6 (eBinF gAdd cYes oAdd (eLit (.int 1)) (eCallF m_l_law_draw (aConsF (eVarF 1) (aConsF (eLit (.int 500)) aNil)))))
    (sSeqF (sF 9 (sF 8 (sF 7 (sPar3 7 8 9 (aConsF (eBinF gAdd cYes oAdd (eBinF gMod cPosF oMod (eBlt gInt (aConsF (eVarF 6) aNil)) (eLit (.int 97))) (eLit (.int 1))) (aConsF (eBinF gAdd cYes oAdd (eBinF gDiv cDivF oDiv (eVarF 6) (eLit (.int 97))) (eLit (.int 2))) (aConsF (eBinF gAdd cYes oAdd (eBinF gMul cMulF oMul (eLit (.int 7)) (eVarF 6)) (eLit (.int 1))) aNil)))))))
    (sSeqF (sSetF 10 (eTupF (aConsF (eBinF gMod cPosF oMod (eBlt gInt (aConsF (eVarF 9) aNil)) (eVarF 3)) (aConsF (eBinF gMod cPosF oMod (eBlt gInt (aConsF (eBinF gSub cYes oSub (eBinF gSub cYes oSub (eBinF gMul cMulF oMul (eVarF 8) (eVarF 8)) (eBinF gMul cMulF oMul (eBinF gMul cMulF oMul (eVarF 7) (eVarF 7)) (eVarF 7))) (eBinF gMul cMulF oMul (eVarF 9) (eVarF 7))) aNil)) (eVarF 3)) (aConsF (eTupF (aConsF (eBinF gMod cPosF oMod (eBlt gInt (aConsF (eVarF 7) aNil)) (eVarF 3)) (aConsF (eBinF gMod cPosF oMod (eBlt gInt (aConsF (eVarF 8) aNil)) (eVarF 3)) aNil))) aNil)))))
    (sIfF (tNotF (tOf (eCallF (m_l_law_same 4) (aConsF (eCallF m_curve_at (aConsF (eVarF 3) (aConsF (eVarF 6) aNil))) (aConsF (eVarF 10) aNil))))) (sFr (sRet (eLit (.bl false)))) sPass)))))))))))
def b_law_4 : Sv := (sIfF (tNotF (tOf (eCallF (m_l_law_same 4) (aConsF (eCallF m_is_likely (aConsF (eVarF 5) aNil)) (aConsF (eCallF m_l_law_is_prime (aConsF (eVarF 5) aNil)) aNil))))) (sFr (sRet (eLit (.bl false)))) sPass)
def m_law : Fn := mkFn 12 (sSeqF (sSetF 1 (eCallF m_l_law_tape (aConsF (eVarF 0) aNil)))
    (sSeqF (sForF (agN 2) (iRange1 (aConsF (eLit (.int 6)) aNil)) b_law_3)
    (sSeqF (sSetF 11 (eCallF m_l_law_draw (aConsF (eVarF 1) (aConsF (eLit (.int 151)) aNil))))
    (sSeqF (sForF (agN 5) (iOf (eLstF (aConsF (eLit (.int 5)) (aConsF (eLit (.int 9)) (aConsF (eLit (.int 7)) (aConsF (eLit (.int 25)) (aConsF (eLit (.int 49)) (aConsF (eLit (.int 91)) (aConsF (eLit (.int 2047)) (aConsF (eLit (.int 1729)) (aConsF (eLit (.int 8911)) aNil))))))))))) b_law_4)
    (sFr (sRet (eCallF (m_l_law_same 4) (aConsF (eCallF m_primes_to (aConsF (eVarF 11) aNil)) (aConsF (eCallF m_l_law_sieve (aConsF (eVarF 11) aNil)) aNil)))))))))
theorem ok_law {P : Program} {w : World} {K : PySem.W.Frag} {mg : Str → Option Value} {c : DC} {f : Addr} (hfa : mg ("law" : Str) = some (.ref f)) (D : DefAt K mg "law" s_law ["script"]) (H_l_law_tape : ∀ base : Heap, K.In base → base.Ns mainGlobals mg → FnAt P w K mg base c "_law_tape" 1 1 m_l_law_tape) (H_l_law_draw : ∀ base : Heap, K.In base → base.Ns mainGlobals mg → FnAt P w K mg base c "_law_draw" 1 2 m_l_law_draw) (H_enough : ∀ base : Heap, K.In base → base.Ns mainGlobals mg → FnAt P w K mg base c "enough" 2 1 m_enough) (H_l_law_is_enough : ∀ base : Heap, K.In base → base.Ns mainGlobals mg → FnAt P w K mg base c "_law_is_enough" 1 2 m_l_law_is_enough) (H_is_likely : ∀ base : Heap, K.In base → base.Ns mainGlobals mg → FnAt P w K mg base c "is_likely" 2 1 m_is_likely) (H_l_law_is_prime : ∀ base : Heap, K.In base → base.Ns mainGlobals mg → FnAt P w K mg base c "_law_is_prime" 1 1 m_l_law_is_prime) (H_l_law_same : ∀ base : Heap, K.In base → base.Ns mainGlobals mg → FnAt P w K mg base c "_law_same" 4 2 (m_l_law_same 4)) (H_l_law_divisor : ∀ base : Heap, K.In base → base.Ns mainGlobals mg → FnAt P w K mg base c "_law_divisor" 1 2 m_l_law_divisor) (H_curve_at : ∀ base : Heap, K.In base → base.Ns mainGlobals mg → FnAt P w K mg base c "curve_at" 1 2 m_curve_at) (H_primes_to : ∀ base : Heap, K.In base → base.Ns mainGlobals mg → FnAt P w K mg base c "primes_to" 1 1 m_primes_to) (H_l_law_sieve : ∀ base : Heap, K.In base → base.Ns mainGlobals mg → FnAt P w K mg base c "_law_sieve" 1 1 m_l_law_sieve) (f_bool : mg "bool" = none) (f_int : mg "int" = none) (f_isinstance : mg "isinstance" = none) (f_range : mg "range" = none) : LawAt P w K mg c f 5 m_law "script" := law_at hfa D sc_law (fun _ _ _ _ _ _ _ => rfl) fun base hK hB f cdv A outer s H E G =>
  have _ := 0
  have h_l_law_tape := H_l_law_tape base hK hB
  have h_l_law_draw := H_l_law_draw base hK hB
  have h_enough := H_enough base hK hB
  have h_l_law_is_enough := H_l_law_is_enough base hK hB
  have h_is_likely := H_is_likely base hK hB
  have h_l_law_is_prime := H_l_law_is_prime base hK hB
  have h_l_law_same := H_l_law_same base hK hB
  have h_l_law_divisor := H_l_law_divisor base hK hB
  have h_curve_at := H_curve_at base hK hB
  have h_primes_to := H_primes_to base hK hB
  have h_l_law_sieve := H_l_law_sieve base hK hB
  (pssC (sSeqF_eq _ _) (psd_cons (psC (sSetF_eq _ _) (psd_set (i := 1) G.nd rfl (Or.inl rfl) (peC (eCallF_eq _ _) (pd_callF h_l_law_tape (by omega) G.rm (by rfl) G.tk (paC (aConsF_eq _ _) (pda_cons (peC (eVarF_eq 0) (pd_pv 0 (pv 0))) pda_nil)) (alnC (aConsF_eq _ _) (aln_cons aln_nil))))))
    (pssC (sSeqF_eq _ _) (psd_cons (psC (sForF_eq _ _ _) (psd_for G.po G.calm (pid_range1 (by rfl) f_range (paC (aConsF_eq _ _) (pda_cons (pd_lit pe_int fun _ _ => .int _) pda_nil))) (pgd_name (i := 2) G.nd rfl (by first | exact Or.inl rfl | exact Or.inr rfl)) (pssC (sSeqF_eq _ _) (psd_cons (psC (sSetF_eq _ _) (psd_set (i := 3) G.nd rfl (Or.inl rfl) (peC (eIfF_eq _ _ _) (pd_if (ptC (tCmpF_eq cmpLt _ _) (pdt_cmp op_lt opd_lt (peC (eVarF_eq 2) (pd_pv 2 (pv 2))) (pd_lit pe_int fun _ _ => .int _) (nomark _))) (peC (eBinF_eq binAdd _ _) (pd_op op_addA opd_add (pd_lit pe_int fun _ _ => .int _) (peC (eCallF_eq _ _) (pd_callF h_l_law_draw (by omega) G.rm (by rfl) G.tk (paC (aConsF_eq _ _) (pda_cons (peC (eVarF_eq 1) (pd_pv 1 (pv 1))) (paC (aConsF_eq _ _) (pda_cons (pd_lit pe_int fun _ _ => .int _) pda_nil)))) (alnC (aConsF_eq _ _) (aln_cons (alnC (aConsF_eq _ _) (aln_cons aln_nil)))))))) (peC (eBinF_eq binAdd _ _) (pd_op op_addA opd_add (pd_op op_pow opd_pow (pd_lit pe_int fun _ _ => .int _) (pd_lit pe_int fun _ _ => .int _)) (peC (eCallF_eq _ _) (pd_callF h_l_law_draw (by omega) G.rm (by rfl) G.tk (paC (aConsF_eq _ _) (pda_cons (peC (eVarF_eq 1) (pd_pv 1 (pv 1))) (paC (aConsF_eq _ _) (pda_cons (pd_op op_pow opd_pow (pd_lit pe_int fun _ _ => .int _) (pd_lit pe_int fun _ _ => .int _)) pda_nil)))) (alnC (aConsF_eq _ _) (aln_cons (alnC (aConsF_eq _ _) (aln_cons aln_nil))))))))))))
    (pssC (sSeqF_eq _ _) (psd_cons (psC (sSetF_eq _ _) (psd_set (i := 4) G.nd rfl (Or.inl rfl) (peC (eCallF_eq _ _) (pd_callF h_enough (by omega) G.rm (by rfl) G.tk (paC (aConsF_eq _ _) (pda_cons (peC (eVarF_eq 3) (pd_pv 3 (pv 3))) pda_nil)) (alnC (aConsF_eq _ _) (aln_cons aln_nil))))))
    (pssC (sSeqF_eq _ _) (psd_cons (psC (sIfF_eq _ _ _) (psd_if (PW.pt (pwC (tOrF_eq _ _) (pdw_or (ptC (tNotF_eq _) (pdt_not (pdt_truth (peC ((eUnF_eq _ _).trans (by rw [← isT_int])) (pd_isi kit_int (by rfl) f_isinstance (by rfl) f_int (by decide +kernel) (peC (eVarF_eq 4) (pd_pv 4 (pv 4))))) (by intro _; rfl)))) (pwC (tOrF_eq _ _) (pdw_or (pdt_truth (peC ((eUnF_eq _ _).trans (by rw [← isT_bool])) (pd_isi kit_bool (by rfl) f_isinstance (by rfl) f_bool (by decide +kernel) (peC (eVarF_eq 4) (pd_pv 4 (pv 4))))) (by intro _; rfl)) (pdw_or1 (ptC (tNotF_eq _) (pdt_not (pdt_truth (peC (eCallF_eq _ _) (pd_callF h_l_law_is_enough (by omega) G.rm (by rfl) G.tk (paC (aConsF_eq _ _) (pda_cons (peC (eVarF_eq 3) (pd_pv 3 (pv 3))) (paC (aConsF_eq _ _) (pda_cons (peC (eVarF_eq 4) (pd_pv 4 (pv 4))) pda_nil)))) (alnC (aConsF_eq _ _) (aln_cons (alnC (aConsF_eq _ _) (aln_cons aln_nil)))))) (by intro _; rfl)))))))))) (psd_one (psFr (psd_ret (pd_lit pe_bl fun _ _ => .bl _)))) psd_nil))
    (pssC (sSeqF_eq _ _) (psd_cons (psC (sSetF_eq _ _) (psd_set (i := 5) G.nd rfl (Or.inl rfl) (peC (eBinF_eq binAdd _ _) (pd_op op_addA opd_add (pd_lit pe_int fun _ _ => .int _) (peC (eBinF_eq binMul _ _) (pd_op op_mulA opd_mul (pd_lit pe_int fun _ _ => .int _) (peC (eCallF_eq _ _) (pd_callF h_l_law_draw (by omega) G.rm (by rfl) G.tk (paC (aConsF_eq _ _) (pda_cons (peC (eVarF_eq 1) (pd_pv 1 (pv 1))) (paC (aConsF_eq _ _) (pda_cons (pd_lit pe_int fun _ _ => .int _) pda_nil)))) (alnC (aConsF_eq _ _) (aln_cons (alnC (aConsF_eq _ _) (aln_cons aln_nil))))))))))))
    (pssC (sSeqF_eq _ _) (psd_cons (psC (sIfF_eq _ _ _) (psd_if (ptC (tNotF_eq _) (pdt_not (pdt_truth (peC (eCallF_eq _ _) (pd_callF h_l_law_same (by omega) G.rm (by rfl) G.tk (paC (aConsF_eq _ _) (pda_cons (peC (eCallF_eq _ _) (pd_callF h_is_likely (by omega) G.rm (by rfl) G.tk (paC (aConsF_eq _ _) (pda_cons (peC (eVarF_eq 5) (pd_pv 5 (pv 5))) pda_nil)) (alnC (aConsF_eq _ _) (aln_cons aln_nil)))) (paC (aConsF_eq _ _) (pda_cons (peC (eCallF_eq _ _) (pd_callF h_l_law_is_prime (by omega) G.rm (by rfl) G.tk (paC (aConsF_eq _ _) (pda_cons (peC (eVarF_eq 5) (pd_pv 5 (pv 5))) pda_nil)) (alnC (aConsF_eq _ _) (aln_cons aln_nil)))) pda_nil)))) (alnC (aConsF_eq _ _) (aln_cons (alnC (aConsF_eq _ _) (aln_cons aln_nil)))))) (by intro _; rfl)))) (psd_one (psFr (psd_ret (pd_lit pe_bl fun _ _ => .bl _)))) psd_nil))
    (pssC (sSeqF_eq _ _) (psd_cons (psC (sSetF_eq _ _) (psd_set (i := 3) G.nd rfl (Or.inl rfl) (peC (eBinF_eq binAdd _ _) (pd_op op_addA opd_add (peC (eVarF_eq 3) (pd_pv 3 (pv 3))) (pd_lit pe_int fun _ _ => .int _)))))
    (pssC (sSeqF_eq _ _) (psd_cons (psC (sWhileF_eq _ _ _) (psd_while FU G.po (ptC (tCmpF_eq cmpNe _ _) (pdt_cmp (op_neA G.rm) opd_ne (peC (eCallF_eq _ _) (pd_callF h_l_law_divisor (by omega) G.rm (by rfl) G.tk (paC (aConsF_eq _ _) (pda_cons (peC (eVarF_eq 3) (pd_pv 3 (pv 3))) (paC (aConsF_eq _ _) (pda_cons (pd_lit pe_int fun _ _ => .int _) pda_nil)))) (alnC (aConsF_eq _ _) (aln_cons (alnC (aConsF_eq _ _) (aln_cons aln_nil)))))) (pd_lit pe_int fun _ _ => .int _) (nomark _))) (psd_one (psC (sSetF_eq _ _) (psd_set (i := 3) G.nd rfl (Or.inl rfl) (peC (eBinF_eq binAdd _ _) (pd_op op_addA opd_add (peC (eVarF_eq 3) (pd_pv 3 (pv 3))) (pd_lit pe_int fun _ _ => .int _))))))))
    (pssC (sSeqF_eq _ _) (psd_cons (psC (sSetF_eq _ _) (psd_set (i := 6) G.nd rfl (Or.inl rfl) (peC (eBinF_eq binAdd _ _) (pd_op op_addA opd_add (pd_lit pe_int fun _ _ => .int _) (peC (eCallF_eq _ _) (pd_callF h_l_law_draw (by omega) G.rm (by rfl) G.tk (paC (aConsF_eq _ _) (pda_cons (peC (eVarF_eq 1) (pd_pv 1 (pv 1))) (paC (aConsF_eq _ _) (pda_cons (pd_lit pe_int fun _ _ => .int _) pda_nil)))) (alnC (aConsF_eq _ _) (aln_cons (alnC (aConsF_eq _ _) (aln_cons aln_nil))))))))))
    (pssC (sSeqF_eq _ _) (psd_cons (psF (psF (psF (psd_par3 (i := 7) (j := 8) (l := 9) G.calm G.nd rfl rfl rfl (by decide) (by decide) (by decide) (ps_par3 G.calm G.nd rfl rfl rfl (by decide) (by decide) (by decide) rfl rfl rfl (paC (aConsF_eq _ _) (pda_cons (peC (eBinF_eq binAdd _ _) (pd_op op_addA opd_add (peC (eBinF_eq binMod _ _) (pd_op op_modA opd_mod (pd_callTy call_int1 calld_int (by rfl) f_int (by decide +kernel) (paC (aConsF_eq _ _) (pda_cons (peC (eVarF_eq 6) (pd_pv 6 (pv 6))) pda_nil))) (pd_lit pe_int fun _ _ => .int _))) (pd_lit pe_int fun _ _ => .int _))) (paC (aConsF_eq _ _) (pda_cons (peC (eBinF_eq binAdd _ _) (pd_op op_addA opd_add (peC (eBinF_eq binDiv _ _) (pd_op op_divA opd_div (peC (eVarF_eq 6) (pd_pv 6 (pv 6))) (pd_lit pe_int fun _ _ => .int _))) (pd_lit pe_int fun _ _ => .int _))) (paC (aConsF_eq _ _) (pda_cons (peC (eBinF_eq binAdd _ _) (pd_op op_addA opd_add (peC (eBinF_eq binMul _ _) (pd_op op_mulA opd_mul (pd_lit pe_int fun _ _ => .int _) (peC (eVarF_eq 6) (pd_pv 6 (pv 6))))) (pd_lit pe_int fun _ _ => .int _))) pda_nil)))))) (by rfl))))))
    (pssC (sSeqF_eq _ _) (psd_cons (psC (sSetF_eq _ _) (psd_set (i := 10) G.nd rfl (Or.inl rfl) (peC (eTupF_eq _) (pd_tup (paC (aConsF_eq _ _) (pda_cons (peC (eBinF_eq binMod _ _) (pd_op op_modA opd_mod (pd_callTy call_int1 calld_int (by rfl) f_int (by decide +kernel) (paC (aConsF_eq _ _) (pda_cons (peC (eVarF_eq 9) (pd_pv 9 (pv 9))) pda_nil))) (peC (eVarF_eq 3) (pd_pv 3 (pv 3))))) (paC (aConsF_eq _ _) (pda_cons (peC (eBinF_eq binMod _ _) (pd_op op_modA opd_mod (pd_callTy call_int1 calld_int (by rfl) f_int (by decide +kernel) (paC (aConsF_eq _ _) (pda_cons (peC (eBinF_eq binSub _ _) (pd_op op_sub opd_sub (peC (eBinF_eq binSub _ _) (pd_op op_sub opd_sub (peC (eBinF_eq binMul _ _) (pd_op op_mulA opd_mul (peC (eVarF_eq 8) (pd_pv 8 (pv 8))) (peC (eVarF_eq 8) (pd_pv 8 (pv 8))))) (peC (eBinF_eq binMul _ _) (pd_op op_mulA opd_mul (peC (eBinF_eq binMul _ _) (pd_op op_mulA opd_mul (peC (eVarF_eq 7) (pd_pv 7 (pv 7))) (peC (eVarF_eq 7) (pd_pv 7 (pv 7))))) (peC (eVarF_eq 7) (pd_pv 7 (pv 7))))))) (peC (eBinF_eq binMul _ _) (pd_op op_mulA opd_mul (peC (eVarF_eq 9) (pd_pv 9 (pv 9))) (peC (eVarF_eq 7) (pd_pv 7 (pv 7))))))) pda_nil))) (peC (eVarF_eq 3) (pd_pv 3 (pv 3))))) (paC (aConsF_eq _ _) (pda_cons (peC (eTupF_eq _) (pd_tup (paC (aConsF_eq _ _) (pda_cons (peC (eBinF_eq binMod _ _) (pd_op op_modA opd_mod (pd_callTy call_int1 calld_int (by rfl) f_int (by decide +kernel) (paC (aConsF_eq _ _) (pda_cons (peC (eVarF_eq 7) (pd_pv 7 (pv 7))) pda_nil))) (peC (eVarF_eq 3) (pd_pv 3 (pv 3))))) (paC (aConsF_eq _ _) (pda_cons (peC (eBinF_eq binMod _ _) (pd_op op_modA opd_mod (pd_callTy call_int1 calld_int (by rfl) f_int (by decide +kernel) (paC (aConsF_eq _ _) (pda_cons (peC (eVarF_eq 8) (pd_pv 8 (pv 8))) pda_nil))) (peC (eVarF_eq 3) (pd_pv 3 (pv 3))))) pda_nil)))) (alnC (aConsF_eq _ _) (aln_cons (alnC (aConsF_eq _ _) (aln_cons aln_nil)))))) pda_nil)))))) (alnC (aConsF_eq _ _) (aln_cons (alnC (aConsF_eq _ _) (aln_cons (alnC (aConsF_eq _ _) (aln_cons aln_nil))))))))))
    (psd_one (psC (sIfF_eq _ _ _) (psd_if (ptC (tNotF_eq _) (pdt_not (pdt_truth (peC (eCallF_eq _ _) (pd_callF h_l_law_same (by omega) G.rm (by rfl) G.tk (paC (aConsF_eq _ _) (pda_cons (peC (eCallF_eq _ _) (pd_callF h_curve_at (by omega) G.rm (by rfl) G.tk (paC (aConsF_eq _ _) (pda_cons (peC (eVarF_eq 3) (pd_pv 3 (pv 3))) (paC (aConsF_eq _ _) (pda_cons (peC (eVarF_eq 6) (pd_pv 6 (pv 6))) pda_nil)))) (alnC (aConsF_eq _ _) (aln_cons (alnC (aConsF_eq _ _) (aln_cons aln_nil)))))) (paC (aConsF_eq _ _) (pda_cons (peC (eVarF_eq 10) (pd_pv 10 (pv 10))) pda_nil)))) (alnC (aConsF_eq _ _) (aln_cons (alnC (aConsF_eq _ _) (aln_cons aln_nil)))))) (by intro _; rfl)))) (psd_one (psFr (psd_ret (pd_lit pe_bl fun _ _ => .bl _)))) psd_nil)))))))))))))))))))))))))
    (pssC (sSeqF_eq _ _) (psd_cons (psC (sSetF_eq _ _) (psd_set (i := 11) G.nd rfl (Or.inl rfl) (peC (eCallF_eq _ _) (pd_callF h_l_law_draw (by omega) G.rm (by rfl) G.tk (paC (aConsF_eq _ _) (pda_cons (peC (eVarF_eq 1) (pd_pv 1 (pv 1))) (paC (aConsF_eq _ _) (pda_cons (pd_lit pe_int fun _ _ => .int _) pda_nil)))) (alnC (aConsF_eq _ _) (aln_cons (alnC (aConsF_eq _ _) (aln_cons aln_nil))))))))
    (pssC (sSeqF_eq _ _) (psd_cons (psC (sForF_eq _ _ _) (psd_for G.po G.calm (pid_of (pd_of_n (pnC (eLstF_eq _) (pdn_lst (paC (aConsF_eq _ _) (pda_cons (pd_lit pe_int fun _ _ => .int _) (paC (aConsF_eq _ _) (pda_cons (pd_lit pe_int fun _ _ => .int _) (paC (aConsF_eq _ _) (pda_cons (pd_lit pe_int fun _ _ => .int _) (paC (aConsF_eq _ _) (pda_cons (pd_lit pe_int fun _ _ => .int _) (paC (aConsF_eq _ _) (pda_cons (pd_lit pe_int fun _ _ => .int _) (paC (aConsF_eq _ _) (pda_cons (pd_lit pe_int fun _ _ => .int _) (paC (aConsF_eq _ _) (pda_cons (pd_lit pe_int fun _ _ => .int _) (paC (aConsF_eq _ _) (pda_cons (pd_lit pe_int fun _ _ => .int _) (paC (aConsF_eq _ _) (pda_cons (pd_lit pe_int fun _ _ => .int _) pda_nil)))))))))))))))))) (alnC (aConsF_eq _ _) (aln_cons (alnC (aConsF_eq _ _) (aln_cons (alnC (aConsF_eq _ _) (aln_cons (alnC (aConsF_eq _ _) (aln_cons (alnC (aConsF_eq _ _) (aln_cons (alnC (aConsF_eq _ _) (aln_cons (alnC (aConsF_eq _ _) (aln_cons (alnC (aConsF_eq _ _) (aln_cons (alnC (aConsF_eq _ _) (aln_cons aln_nil)))))))))))))))))))))) (pgd_name (i := 5) G.nd rfl (by first | exact Or.inl rfl | exact Or.inr rfl)) (psd_one (psC (sIfF_eq _ _ _) (psd_if (ptC (tNotF_eq _) (pdt_not (pdt_truth (peC (eCallF_eq _ _) (pd_callF h_l_law_same (by omega) G.rm (by rfl) G.tk (paC (aConsF_eq _ _) (pda_cons (peC (eCallF_eq _ _) (pd_callF h_is_likely (by omega) G.rm (by rfl) G.tk (paC (aConsF_eq _ _) (pda_cons (peC (eVarF_eq 5) (pd_pv 5 (pv 5))) pda_nil)) (alnC (aConsF_eq _ _) (aln_cons aln_nil)))) (paC (aConsF_eq _ _) (pda_cons (peC (eCallF_eq _ _) (pd_callF h_l_law_is_prime (by omega) G.rm (by rfl) G.tk (paC (aConsF_eq _ _) (pda_cons (peC (eVarF_eq 5) (pd_pv 5 (pv 5))) pda_nil)) (alnC (aConsF_eq _ _) (aln_cons aln_nil)))) pda_nil)))) (alnC (aConsF_eq _ _) (aln_cons (alnC (aConsF_eq _ _) (aln_cons aln_nil)))))) (by intro _; rfl)))) (psd_one (psFr (psd_ret (pd_lit pe_bl fun _ _ => .bl _)))) psd_nil)))))
    (psd_one (psFr (psd_ret (peC (eCallF_eq _ _) (pd_callF h_l_law_same (by omega) G.rm (by rfl) G.tk (paC (aConsF_eq _ _) (pda_cons (peC (eCallF_eq _ _) (pd_callF h_primes_to (by omega) G.rm (by rfl) G.tk (paC (aConsF_eq _ _) (pda_cons (peC (eVarF_eq 11) (pd_pv 11 (pv 11))) pda_nil)) (alnC (aConsF_eq _ _) (aln_cons aln_nil)))) (paC (aConsF_eq _ _) (pda_cons (peC (eCallF_eq _ _) (pd_callF h_l_law_sieve (by omega) G.rm (by rfl) G.tk (paC (aConsF_eq _ _) (pda_cons (peC (eVarF_eq 11) (pd_pv 11 (pv 11))) pda_nil)) (alnC (aConsF_eq _ _) (aln_cons aln_nil)))) pda_nil)))) (alnC (aConsF_eq _ _) (aln_cons (alnC (aConsF_eq _ _) (aln_cons aln_nil)))))))))))))))))
def ddf : List He.DefD := [⟨("power", none), "power", "power", defArgs s_power, defBody s_power, defScope s_power, [], []⟩, ⟨("whole_root", none), "whole_root", "whole_root", defArgs s_whole_root, defBody s_whole_root, defScope s_whole_root, [], []⟩, ⟨("is_likely", none), "is_likely", "is_likely", defArgs s_is_likely, defBody s_is_likely, defScope s_is_likely, [], []⟩, ⟨("enough", none), "enough", "enough", defArgs s_enough, defBody s_enough, defScope s_enough, [], []⟩, ⟨("curve_at", none), "curve_at", "curve_at", defArgs s_curve_at, defBody s_curve_at, defScope s_curve_at, [], []⟩, ⟨("primes_to", none), "primes_to", "primes_to", defArgs s_primes_to, defBody s_primes_to, defScope s_primes_to, [], []⟩, ⟨("_law_tape", none), "_law_tape", "_law_tape", defArgs s_l_law_tape, defBody s_l_law_tape, defScope s_l_law_tape, [], []⟩, ⟨("_law_draw", none), "_law_draw", "_law_draw", defArgs s_l_law_draw, defBody s_l_law_draw, defScope s_l_law_draw, [], []⟩, ⟨("_law_same", none), "_law_same", "_law_same", defArgs s_l_law_same, defBody s_l_law_same, defScope s_l_law_same, [], []⟩, ⟨("_law_divisor", none), "_law_divisor", "_law_divisor", defArgs s_l_law_divisor, defBody s_l_law_divisor, defScope s_l_law_divisor, [], []⟩, ⟨("_law_is_prime", none), "_law_is_prime", "_law_is_prime", defArgs s_l_law_is_prime, defBody s_l_law_is_prime, defScope s_l_law_is_prime, [], []⟩, ⟨("_law_is_enough", none), "_law_is_enough", "_law_is_enough", defArgs s_l_law_is_enough, defBody s_l_law_is_enough, defScope s_l_law_is_enough, [], []⟩, ⟨("_law_sieve", none), "_law_sieve", "_law_sieve", defArgs s_l_law_sieve, defBody s_l_law_sieve, defScope s_l_law_sieve, [], []⟩, ⟨("law", none), "law", "law", defArgs s_law, defBody s_law, defScope s_law, [], []⟩]
def faf : List He.Fa := [.glo "power", .glo "whole_root", .glo "is_likely", .glo "enough", .glo "curve_at", .glo "primes_to", .glo "_law_tape", .glo "_law_draw", .glo "_law_same", .glo "_law_divisor", .glo "_law_is_prime", .glo "_law_is_enough", .glo "_law_sieve", .glo "law", .free "abs", .free "all", .free "bool", .free "int", .free "isinstance", .free "len", .free "range", .free "str", .free "tuple"]
abbrev R : PySem.W.OpenRow := PySem.W.OpenLaw.row PySem.Challenge.rw_chordkeep_k69_whole_numbers_about_primes
abbrev hk : PySem.W.Hook := He.hookD 4 faf ddf
def ob (s : PySem.W.SharedT) : He.AlD := He.obsDG 4 faf ddf (HandSHeadRun.getT s)
theorem ob_eq (s : PySem.W.SharedT) : ob s = hk.obs s.abs := He.obsDG_eq (HandSHeadRun.getT_eq s)
theorem run (w : World) : HandSHeadRun.RunEq R (PySem.W.view R.prog [16]) hk ob 4000 ["power", "whole_root", "is_likely", "enough", "curve_at", "primes_to", "_law_tape", "_law_draw", "_law_same", "_law_divisor", "_law_is_prime", "_law_is_enough", "_law_sieve"] w := by
  intro os
  kernel_rfl
def c0 (K : PySem.W.Frag) : DC := ⟨fun _ => none, []⟩
theorem facts {P : Program} {w : World} {K : PySem.W.Frag} {h : Heap} {mg : Str → Option Value} {f : Addr} (X : K.In h) (G : h.Ns mainGlobals mg) (hfa : mg ("law" : Str) = some (.ref f)) (cs : He.SaysD faf ddf K) : LawAt P w K mg (c0 K) f 5 m_law "script" := by
  have f_abs : mg "abs" = none := free_of X G cs 14 rfl
  have f_all : mg "all" = none := free_of X G cs 15 rfl
  have f_bool : mg "bool" = none := free_of X G cs 16 rfl
  have f_int : mg "int" = none := free_of X G cs 17 rfl
  have f_isinstance : mg "isinstance" = none := free_of X G cs 18 rfl
  have f_len : mg "len" = none := free_of X G cs 19 rfl
  have f_range : mg "range" = none := free_of X G cs 20 rfl
  have f_str : mg "str" = none := free_of X G cs 21 rfl
  have f_tuple : mg "tuple" = none := free_of X G cs 22 rfl
  have D_power : DefAt K mg "power" s_power ["base", "exponent", "modulus"] := def_of X G cs 0 0 rfl rfl fun _ _ _ _ _ _ us hl => match us, hl with | [_, _, _], _ => rfl
  have D_whole_root : DefAt K mg "whole_root" s_whole_root ["number"] := def_of X G cs 1 1 rfl rfl fun _ _ _ _ _ _ us hl => match us, hl with | [_], _ => rfl
  have D_is_likely : DefAt K mg "is_likely" s_is_likely ["number"] := def_of X G cs 2 2 rfl rfl fun _ _ _ _ _ _ us hl => match us, hl with | [_], _ => rfl
  have D_enough : DefAt K mg "enough" s_enough ["number"] := def_of X G cs 3 3 rfl rfl fun _ _ _ _ _ _ us hl => match us, hl with | [_], _ => rfl
  have D_curve_at : DefAt K mg "curve_at" s_curve_at ["number", "place"] := def_of X G cs 4 4 rfl rfl fun _ _ _ _ _ _ us hl => match us, hl with | [_, _], _ => rfl
  have D_primes_to : DefAt K mg "primes_to" s_primes_to ["limit"] := def_of X G cs 5 5 rfl rfl fun _ _ _ _ _ _ us hl => match us, hl with | [_], _ => rfl
  have D_l_law_tape : DefAt K mg "_law_tape" s_l_law_tape ["script"] := def_of X G cs 6 6 rfl rfl fun _ _ _ _ _ _ us hl => match us, hl with | [_], _ => rfl
  have D_l_law_draw : DefAt K mg "_law_draw" s_l_law_draw ["tape", "many"] := def_of X G cs 7 7 rfl rfl fun _ _ _ _ _ _ us hl => match us, hl with | [_, _], _ => rfl
  have D_l_law_same : DefAt K mg "_law_same" s_l_law_same ["actual", "due"] := def_of X G cs 8 8 rfl rfl fun _ _ _ _ _ _ us hl => match us, hl with | [_, _], _ => rfl
  have D_l_law_divisor : DefAt K mg "_law_divisor" s_l_law_divisor ["one", "other"] := def_of X G cs 9 9 rfl rfl fun _ _ _ _ _ _ us hl => match us, hl with | [_, _], _ => rfl
  have D_l_law_is_prime : DefAt K mg "_law_is_prime" s_l_law_is_prime ["number"] := def_of X G cs 10 10 rfl rfl fun _ _ _ _ _ _ us hl => match us, hl with | [_], _ => rfl
  have D_l_law_is_enough : DefAt K mg "_law_is_enough" s_l_law_is_enough ["number", "least"] := def_of X G cs 11 11 rfl rfl fun _ _ _ _ _ _ us hl => match us, hl with | [_, _], _ => rfl
  have D_l_law_sieve : DefAt K mg "_law_sieve" s_l_law_sieve ["limit"] := def_of X G cs 12 12 rfl rfl fun _ _ _ _ _ _ us hl => match us, hl with | [_], _ => rfl
  have D_law : DefAt K mg "law" s_law ["script"] := def_of X G cs 13 13 rfl rfl fun _ _ _ _ _ _ us hl => match us, hl with | [_], _ => rfl
  have H_power : ∀ base : Heap, FnAt P w K mg base (c0 K) "power" 1 3 m_power := fun base => ok_power D_power 
  have H_whole_root : ∀ base : Heap, FnAt P w K mg base (c0 K) "whole_root" 1 1 m_whole_root := fun base => ok_whole_root D_whole_root 
  have H_is_likely : ∀ base : Heap, FnAt P w K mg base (c0 K) "is_likely" 2 1 m_is_likely := fun base => ok_is_likely D_is_likely (H_power base) f_range
  have H_enough : ∀ base : Heap, FnAt P w K mg base (c0 K) "enough" 2 1 m_enough := fun base => ok_enough D_enough (H_whole_root base)
  have H_curve_at : ∀ base : Heap, FnAt P w K mg base (c0 K) "curve_at" 1 2 m_curve_at := fun base => ok_curve_at D_curve_at 
  have H_primes_to : ∀ base : Heap, FnAt P w K mg base (c0 K) "primes_to" 1 1 m_primes_to := fun base => ok_primes_to D_primes_to f_all f_range f_tuple
  have H_l_law_tape : ∀ base : Heap, FnAt P w K mg base (c0 K) "_law_tape" 1 1 m_l_law_tape := fun base => ok_l_law_tape D_l_law_tape f_abs f_int
  have H_l_law_draw : ∀ base : Heap, FnAt P w K mg base (c0 K) "_law_draw" 1 2 m_l_law_draw := fun base => ok_l_law_draw D_l_law_draw f_int f_len
  have H_l_law_same : ∀ base : Heap, FnAt P w K mg base (c0 K) "_law_same" 4 2 (m_l_law_same 4) := fun base => ok_l_law_same D_l_law_same f_all f_bool f_int f_isinstance f_len f_range f_str f_tuple 4
  have H_l_law_divisor : ∀ base : Heap, FnAt P w K mg base (c0 K) "_law_divisor" 1 2 m_l_law_divisor := fun base => ok_l_law_divisor D_l_law_divisor f_abs f_int
  have H_l_law_is_prime : ∀ base : Heap, FnAt P w K mg base (c0 K) "_law_is_prime" 1 1 m_l_law_is_prime := fun base => ok_l_law_is_prime D_l_law_is_prime 
  have H_l_law_is_enough : ∀ base : Heap, FnAt P w K mg base (c0 K) "_law_is_enough" 1 2 m_l_law_is_enough := fun base => ok_l_law_is_enough D_l_law_is_enough 
  have H_l_law_sieve : ∀ base : Heap, FnAt P w K mg base (c0 K) "_law_sieve" 1 1 m_l_law_sieve := fun base => ok_l_law_sieve D_l_law_sieve f_range f_tuple
  exact ok_law hfa D_law (fun base _ _ => H_l_law_tape base) (fun base _ _ => H_l_law_draw base) (fun base _ _ => H_enough base) (fun base _ _ => H_l_law_is_enough base) (fun base _ _ => H_is_likely base) (fun base _ _ => H_l_law_is_prime base) (fun base _ _ => H_l_law_same base) (fun base _ _ => H_l_law_divisor base) (fun base _ _ => H_curve_at base) (fun base _ _ => H_primes_to base) (fun base _ _ => H_l_law_sieve base) f_bool f_int f_isinstance f_range
end KA

namespace KA
open PySem PySem.Spec L2 DL
/-! ### the plain law -/
theorem is_enough_ok (n l : Int) (S : List DO) (h0 : 0 ≤ n) (hn : n < 1000000000000) (hl0 : 1 ≤ l) (hl : l < 2000000) (h2 : 0 ≤ l * l + 6 * l + 1 - n) (h3 : 16 * l * (l + 1) * (l + 1) ≤ (l * l + 6 * l + 1 - n) * (l * l + 6 * l + 1 - n)) : m_l_law_is_enough [.int n, .int l] S = .ok (.bl true) S := by
  have e1 : l * l < 4000000000000 := by
    have : l * l ≤ 1999999 * 1999999 := Int.mul_le_mul (by omega) (by omega) (by omega) (by decide)
    omega
  have e2 : 0 ≤ l * l := Int.mul_nonneg (by omega) (by omega)
  have e3 : 16 * l * (l + 1) < 18446744073709551616 := by
    have : 16 * l * (l + 1) = 16 * (l * l) + 16 * l := by rw [Int.mul_add, Int.mul_assoc]; omega
    omega
  have e4 : 0 ≤ 16 * l * (l + 1) := Int.mul_nonneg (by omega) (by omega)
  unfold m_l_law_is_enough
  refine fn_rt (s_seq (s_set (v_sub (v_add (v_add (v_mul (v_var rfl) (v_var rfl) (by omega) (by omega)) (v_mul rfl (v_var rfl) (by decide) (by decide))) rfl) (v_var rfl))) (s_ret (v_and (S1 := S) ?_ (v_and (S1 := S) ?_ ?_))))
  · rw [v_ecmp cmpGe (v_var rfl) rfl, iLe_eq, decide_eq_true hl0]
  · rw [v_ecmp cmpGe (v_var rfl) rfl, iLe_eq, decide_eq_true h2]
  · rw [v_ecmp cmpGe (v_mul (v_var rfl) (v_var rfl) (by omega) (by omega)) (v_mul (v_mul (v_mul rfl (v_var rfl) (by decide) (by decide)) (v_add (v_var rfl) rfl) (by omega) (by omega)) (v_add (v_var rfl) rfl) (by omega) (by omega)), iLe_eq, decide_eq_true h3]

theorem root_step (n f : Int) (S : List DO) (h0 : 0 ≤ n) (hf : 1 ≤ f) (hb : f < 1267650600228229401496703205376) (x : SL) (h : ¬ (f ≤ (f + n / f) / 2)) :
    b_whole_root_2 [.val (.int n), .val (.int f), x] S = .nx [.val (.int n), .val (.int ((f + n / f) / 2)), .val (.int ((f + n / f) / 2))] S :=
  s_seq (s_set (v_div (v_add (v_var rfl) (v_div (v_var rfl) (v_var rfl) (by omega) hb)) rfl (by decide) (by decide))) (s_seq (s_ifF (by rw [v_cmp cmpGe (v_var rfl) (v_var rfl), iLe_eq, decide_eq_false h]) rfl) (s_set (v_var rfl)))
theorem root_end (n f : Int) (S : List DO) (h0 : 0 ≤ n) (hf : 1 ≤ f) (hb : f < 1267650600228229401496703205376) (x : SL) (h : f ≤ (f + n / f) / 2) :
    b_whole_root_2 [.val (.int n), .val (.int f), x] S = .rt (.int f) S :=
  s_seq (s_set (v_div (v_add (v_var rfl) (v_div (v_var rfl) (v_var rfl) (by omega) hb)) rfl (by decide) (by decide))) (s_seqR (s_ifT (by rw [v_cmp cmpGe (v_var rfl) (v_var rfl), iLe_eq, decide_eq_true h]) (s_ret (v_var rfl))))
theorem sq_lt {a b : Int} (h : a * a < b * b) (ha : 0 ≤ a) (hb : 0 ≤ b) : a < b := by
  rcases Int.lt_or_le a b with z | z
  · exact z
  · have := Int.mul_le_mul z z hb ha
    omega
theorem newton (n f : Int) (h0 : 0 ≤ n) (hf : 1 ≤ f) : n < ((f + n / f) / 2 + 1) * ((f + n / f) / 2 + 1) := by
  have q0 : 0 ≤ n / f := Int.ediv_nonneg h0 (by omega)
  have q1 : n < (n / f + 1) * f := by
    have := Int.lt_ediv_add_one_mul_self n (show 0 < f by omega)
    exact this
  generalize n / f = q at q0 q1
  have c1 : f + q + 1 ≤ 2 * ((f + q) / 2 + 1) := by omega
  have c2 : 0 ≤ (f + q) / 2 := by omega
  generalize (f + q) / 2 = c at c1 c2
  have m1 : (f + q + 1) * (f + q + 1) ≤ (2 * (c + 1)) * (2 * (c + 1)) := Int.mul_le_mul c1 c1 (by omega) (by omega)
  have m2 : (2 * (c + 1)) * (2 * (c + 1)) = 4 * ((c + 1) * (c + 1)) := by grind
  have m3 : 0 ≤ (f - (q + 1)) * (f - (q + 1)) := by
    rcases Int.le_total 0 (f - (q + 1)) with z | z
    · exact Int.mul_nonneg z z
    · exact Int.mul_nonneg_of_nonpos_of_nonpos z z
  have m4 : (f + q + 1) * (f + q + 1) = (f - (q + 1)) * (f - (q + 1)) + 4 * ((q + 1) * f) := by grind
  omega
theorem root_loop (n : Int) (S : List DO) (h0 : 2 ≤ n) : ∀ (fuel : Nat) (f : Int) (x : SL), 1 ≤ f → f < fuel → f < 1000000000000 → n < (f + 1) * (f + 1) → ∃ r : Int, sWhile t_whole_root_1 b_whole_root_2 fuel [.val (.int n), .val (.int f), x] S = .rt (.int r) S ∧ 0 ≤ r ∧ r * r ≤ n ∧ n < (r + 1) * (r + 1)
  | 0, f, x, h1, h2, _, _ => by omega
  | k + 1, f, x, h1, h2, hb, h3 => by
    by_cases h : f ≤ (f + n / f) / 2
    · refine ⟨f, s_whR (S1 := S) rfl (root_end n f S (by omega) h1 (by omega) x h), by omega, ?_, h3⟩
      have q : f ≤ n / f := by omega
      have := (Int.le_ediv_iff_mul_le (show 0 < f by omega)).mp q
      exact this
    · have nt := newton n f (by omega) h1
      have c1 : 1 ≤ (f + n / f) / 2 := by
        have q0 : 0 ≤ n / f := Int.ediv_nonneg (by omega) (by omega)
        rcases Int.lt_or_le 0 ((f + n / f) / 2) with z | z
        · omega
        · have z1 : (f + n / f) / 2 = 0 := by omega
          rw [z1] at nt
          omega
      obtain ⟨r, e, g⟩ := root_loop n S h0 k ((f + n / f) / 2) (.val (.int ((f + n / f) / 2))) c1 (by omega) (by omega) nt
      exact ⟨r, s_whT (S1 := S) rfl (root_step n f S (by omega) h1 (by omega) x h) e, g⟩
theorem root_ok (n : Int) (S : List DO) (h0 : 0 ≤ n) (hn : n < 1000000000000) : ∃ r : Int, m_whole_root [.int n] S = .ok (.int r) S ∧ 0 ≤ r ∧ r * r ≤ n ∧ n < (r + 1) * (r + 1) := by
  by_cases h2 : n < 2
  · refine ⟨n, ?_, h0, ?_, ?_⟩
    · unfold m_whole_root
      exact fn_rt (s_seqR (s_ifT (S1 := S) (by rw [v_cmp (S1 := S) (S2 := S) cmpLt (v_var rfl) rfl, iLt_eq, decide_eq_true h2]) (s_ret (v_var rfl))))
    · have : n = 0 ∨ n = 1 := by omega
      rcases this with z | z <;> rw [z] <;> decide
    · have : n = 0 ∨ n = 1 := by omega
      rcases this with z | z <;> rw [z] <;> decide
  · obtain ⟨N, rfl⟩ := Int.eq_ofNat_of_zero_le h0
    have hN : N ≠ 0 := by omega
    have hb : Builtin.Int.intBits (N : Int) = N.log2 + 1 := by
      unfold Builtin.Int.intBits
      rw [if_neg (by simpa using hN)]
      rfl
    have l1 : N < 2 ^ (N.log2 + 1) := Nat.lt_log2_self
    have l2 : N.log2 < 40 := (Nat.log2_lt hN).mpr (by omega)
    generalize N.log2 = B at hb l1 l2
    -- the first guess
    have e1 : ((((B + 1 : Nat) : Int) + 1) / 2) = (((B + 2) / 2 : Nat) : Int) := by omega
    have p1 : (1 : Int) ≤ ((2 ^ ((B + 2) / 2) : Nat) : Int) := by
      have := Nat.one_le_two_pow (n := (B + 2) / 2)
      omega
    have p2 : 2 ^ ((B + 2) / 2) ≤ 2 ^ 21 := Nat.pow_le_pow_right (by decide) (by omega)
    have p3 : N < 2 ^ ((B + 2) / 2) * 2 ^ ((B + 2) / 2) := by
      rw [← Nat.pow_add]
      exact Nat.lt_of_lt_of_le l1 (Nat.pow_le_pow_right (by decide) (by omega))
    have p4 : (N : Int) < (((2 ^ ((B + 2) / 2) : Nat) : Int) + 1) * (((2 ^ ((B + 2) / 2) : Nat) : Int) + 1) := by
      have : N < (2 ^ ((B + 2) / 2) + 1) * (2 ^ ((B + 2) / 2) + 1) := Nat.lt_of_lt_of_le p3 (Nat.mul_le_mul (Nat.le_succ _) (Nat.le_succ _))
      exact_mod_cast this
    obtain ⟨r, e, g⟩ := root_loop (N : Int) S (by omega) FU ((2 ^ ((B + 2) / 2) : Nat) : Int) .emp p1 (by unfold FU; omega) (by omega) p4
    refine ⟨r, ?_, g⟩
    unfold m_whole_root
    refine fn_rt (s_seq (ρ1 := [.val (.int (N : Int)), .emp, .emp]) (S1 := S) (s_ifF (S1 := S) (by rw [v_cmp (S1 := S) (S2 := S) cmpLt (v_var rfl) rfl, iLt_eq, decide_eq_false h2]) rfl) (s_seq (ρ1 := [.val (.int (N : Int)), .val (.int ((2 ^ ((B + 2) / 2) : Nat) : Int)), .emp]) (S1 := S) ?_ (s_wh e)))
    refine s_set (i := 1) ?_
    have hd : eBinF DL.gDiv cDivF oDiv (eBinF DL.gAdd cYes oAdd (eUnF gBits (eVarF 0)) (eLit (.int 1))) (eLit (.int 2)) [.val (.int (N : Int)), .emp, .emp] S = .ok (.int (((B + 2) / 2 : Nat) : Int)) S := by
      rw [← e1]
      refine v_div (v_add (v_un (v_var rfl) ?_) rfl) rfl (by decide) (by decide)
      show some (DV.int ((Builtin.Int.intBits (N : Int) : Nat) : Int)) = _
      rw [hb]
    refine v_eBin rfl hd ?_
    show (if (decide (0 ≤ (((B + 2) / 2 : Nat) : Int)) && decide ((((B + 2) / 2 : Nat) : Int) ≤ 1000000) && cSmall 1) = true then some (DV.int (1 * 2 ^ (((B + 2) / 2 : Nat) : Int).toNat)) else none) = _
    rw [decide_eq_true (by omega), decide_eq_true (by omega)]
    show some (DV.int (1 * 2 ^ ((B + 2) / 2))) = _
    rw [Int.one_mul, Int.natCast_pow]
    rfl
theorem enough_ok (n : Int) (S : List DO) (h0 : 0 ≤ n) (hn : n < 1000000000000) : ∃ l : Int, m_enough [.int n] S = .ok (.int l) S ∧ m_l_law_is_enough [.int n, .int l] S = .ok (.bl true) S := by
  obtain ⟨r1, e1, a1, a2, a3⟩ := root_ok n S h0 hn
  have hr1 : r1 < 1000001 := by
    refine sq_lt ?_ a1 (by decide)
    have : n < 1000001 * 1000001 := by omega
    omega
  obtain ⟨r2, e2, b1, b2, b3⟩ := root_ok r1 S a1 (by omega)
  have hr2 : r2 < 1001 := by
    refine sq_lt ?_ b1 (by decide)
    omega
  refine ⟨(r2 + 2) * (r2 + 2), ?_, ?_⟩
  · unfold m_enough
    exact fn_rt (s_seq (s_set (v_add (v_call (v_cons (v_call (v_cons (v_var rfl) rfl) e1) rfl) e2) rfl)) (s_ret (v_mul (v_var rfl) (v_var rfl) (by omega) (by omega))))
  · have s0 : 0 ≤ (r2 + 1) * (r2 + 1) := Int.mul_nonneg (by omega) (by omega)
    have s1 : n < ((r2 + 1) * (r2 + 1)) * ((r2 + 1) * (r2 + 1)) := by
      have : (r1 + 1) * (r1 + 1) ≤ ((r2 + 1) * (r2 + 1)) * ((r2 + 1) * (r2 + 1)) := Int.mul_le_mul (by omega) (by omega) (by omega) s0
      omega
    obtain ⟨s, rfl⟩ : ∃ s, r2 = s - 2 := ⟨r2 + 2, by omega⟩
    have es : s - 2 + 2 = s := by omega
    have es1 : s - 2 + 1 = s - 1 := by omega
    rw [es]
    rw [es1] at s1
    have hs : 2 ≤ s := by omega
    have q1 : 1 ≤ s * s := by
      have := Int.mul_le_mul hs hs (by decide) (by omega : (0 : Int) ≤ s)
      omega
    have q2 : s * s < 1000000 * 2 := by
      have : s * s ≤ 1002 * 1002 := Int.mul_le_mul (by omega) (by omega) (by omega) (by decide)
      omega
    have t1 : ((s - 1) * (s - 1)) * ((s - 1) * (s - 1)) = s * s * (s * s) + 6 * (s * s) + 1 - (4 * s * (s * s) + 4 * s) := by grind
    have u1 : 4 * s * (s * s) + 4 * s ≤ s * s * (s * s) + 6 * (s * s) + 1 - n := by omega
    have u0 : 0 ≤ 4 * s * (s * s) + 4 * s := by
      have := Int.mul_nonneg (show 0 ≤ 4 * s by omega) (show 0 ≤ s * s by omega)
      omega
    refine is_enough_ok n (s * s) S h0 hn q1 (by omega) (by omega) ?_
    have m := Int.mul_le_mul u1 u1 u0 (by omega)
    have t2 : (4 * s * (s * s) + 4 * s) * (4 * s * (s * s) + 4 * s) = 16 * (s * s) * (s * s + 1) * (s * s + 1) := by grind
    omega
end KA

namespace KA
open PySem PySem.Spec L2 DL
/-! ### closed runs -/
def oddAt (S : List DO) (k : Nat) : DR DV := eCallF (m_l_law_same 4) (aConsF (eCallF m_is_likely (aConsF (eLit (.int (.ofNat (5 + 2 * k)))) aNil)) (aConsF (eCallF m_l_law_is_prime (aConsF (eLit (.int (.ofNat (5 + 2 * k)))) aNil)) aNil)) [] S
def limAt (S : List DO) (k : Nat) : DR DV := eCallF (m_l_law_same 4) (aConsF (eCallF m_primes_to (aConsF (eLit (.int (.ofNat k))) aNil)) (aConsF (eCallF m_l_law_sieve (aConsF (eLit (.int (.ofNat k))) aNil)) aNil)) [] S
def yesAt (S : List DO) (_ : Nat) : DR DV := .ok (.bl true) S
theorem of_chunk {α : Type} {f g : Nat → α} {a n : Nat} (h : (List.range' a n).map f = (List.range' a n).map g) (k : Nat) (h1 : a ≤ k) (h2 : k < a + n) : f k = g k :=
  List.map_inj_left.mp h k (List.mem_range'.mpr ⟨k - a, by omega, by omega⟩)
theorem odd_0 (S : List DO) : (List.range' 0 50).map (oddAt S) = (List.range' 0 50).map (yesAt S) := by kernel_rfl
theorem odd_1 (S : List DO) : (List.range' 50 50).map (oddAt S) = (List.range' 50 50).map (yesAt S) := by kernel_rfl
theorem odd_2 (S : List DO) : (List.range' 100 50).map (oddAt S) = (List.range' 100 50).map (yesAt S) := by kernel_rfl
theorem odd_3 (S : List DO) : (List.range' 150 50).map (oddAt S) = (List.range' 150 50).map (yesAt S) := by kernel_rfl
theorem odd_4 (S : List DO) : (List.range' 200 50).map (oddAt S) = (List.range' 200 50).map (yesAt S) := by kernel_rfl
theorem odd_5 (S : List DO) : (List.range' 250 50).map (oddAt S) = (List.range' 250 50).map (yesAt S) := by kernel_rfl
theorem odd_6 (S : List DO) : (List.range' 300 50).map (oddAt S) = (List.range' 300 50).map (yesAt S) := by kernel_rfl
theorem odd_7 (S : List DO) : (List.range' 350 50).map (oddAt S) = (List.range' 350 50).map (yesAt S) := by kernel_rfl
theorem odd_8 (S : List DO) : (List.range' 400 50).map (oddAt S) = (List.range' 400 50).map (yesAt S) := by kernel_rfl
theorem odd_9 (S : List DO) : (List.range' 450 50).map (oddAt S) = (List.range' 450 50).map (yesAt S) := by kernel_rfl
theorem odd_10 (S : List DO) : (List.range' 500 50).map (oddAt S) = (List.range' 500 50).map (yesAt S) := by kernel_rfl
theorem odd_11 (S : List DO) : (List.range' 550 50).map (oddAt S) = (List.range' 550 50).map (yesAt S) := by kernel_rfl
theorem odd_12 (S : List DO) : (List.range' 600 50).map (oddAt S) = (List.range' 600 50).map (yesAt S) := by kernel_rfl
theorem odd_13 (S : List DO) : (List.range' 650 50).map (oddAt S) = (List.range' 650 50).map (yesAt S) := by kernel_rfl
theorem odd_14 (S : List DO) : (List.range' 700 50).map (oddAt S) = (List.range' 700 50).map (yesAt S) := by kernel_rfl
theorem odd_15 (S : List DO) : (List.range' 750 50).map (oddAt S) = (List.range' 750 50).map (yesAt S) := by kernel_rfl
theorem odd_16 (S : List DO) : (List.range' 800 50).map (oddAt S) = (List.range' 800 50).map (yesAt S) := by kernel_rfl
theorem odd_17 (S : List DO) : (List.range' 850 50).map (oddAt S) = (List.range' 850 50).map (yesAt S) := by kernel_rfl
theorem odd_18 (S : List DO) : (List.range' 900 50).map (oddAt S) = (List.range' 900 50).map (yesAt S) := by kernel_rfl
theorem odd_19 (S : List DO) : (List.range' 950 50).map (oddAt S) = (List.range' 950 50).map (yesAt S) := by kernel_rfl
theorem odd_20 (S : List DO) : (List.range' 1000 50).map (oddAt S) = (List.range' 1000 50).map (yesAt S) := by kernel_rfl
theorem odd_21 (S : List DO) : (List.range' 1050 50).map (oddAt S) = (List.range' 1050 50).map (yesAt S) := by kernel_rfl
theorem odd_22 (S : List DO) : (List.range' 1100 50).map (oddAt S) = (List.range' 1100 50).map (yesAt S) := by kernel_rfl
theorem odd_23 (S : List DO) : (List.range' 1150 50).map (oddAt S) = (List.range' 1150 50).map (yesAt S) := by kernel_rfl
theorem odd_24 (S : List DO) : (List.range' 1200 50).map (oddAt S) = (List.range' 1200 50).map (yesAt S) := by kernel_rfl
theorem odd_25 (S : List DO) : (List.range' 1250 50).map (oddAt S) = (List.range' 1250 50).map (yesAt S) := by kernel_rfl
theorem odd_26 (S : List DO) : (List.range' 1300 50).map (oddAt S) = (List.range' 1300 50).map (yesAt S) := by kernel_rfl
theorem odd_27 (S : List DO) : (List.range' 1350 50).map (oddAt S) = (List.range' 1350 50).map (yesAt S) := by kernel_rfl
theorem odd_28 (S : List DO) : (List.range' 1400 50).map (oddAt S) = (List.range' 1400 50).map (yesAt S) := by kernel_rfl
theorem odd_29 (S : List DO) : (List.range' 1450 50).map (oddAt S) = (List.range' 1450 50).map (yesAt S) := by kernel_rfl
theorem odd_30 (S : List DO) : (List.range' 1500 50).map (oddAt S) = (List.range' 1500 50).map (yesAt S) := by kernel_rfl
theorem odd_31 (S : List DO) : (List.range' 1550 50).map (oddAt S) = (List.range' 1550 50).map (yesAt S) := by kernel_rfl
theorem odd_32 (S : List DO) : (List.range' 1600 50).map (oddAt S) = (List.range' 1600 50).map (yesAt S) := by kernel_rfl
theorem odd_33 (S : List DO) : (List.range' 1650 50).map (oddAt S) = (List.range' 1650 50).map (yesAt S) := by kernel_rfl
theorem odd_34 (S : List DO) : (List.range' 1700 50).map (oddAt S) = (List.range' 1700 50).map (yesAt S) := by kernel_rfl
theorem odd_35 (S : List DO) : (List.range' 1750 50).map (oddAt S) = (List.range' 1750 50).map (yesAt S) := by kernel_rfl
theorem odd_36 (S : List DO) : (List.range' 1800 50).map (oddAt S) = (List.range' 1800 50).map (yesAt S) := by kernel_rfl
theorem odd_37 (S : List DO) : (List.range' 1850 50).map (oddAt S) = (List.range' 1850 50).map (yesAt S) := by kernel_rfl
theorem odd_38 (S : List DO) : (List.range' 1900 50).map (oddAt S) = (List.range' 1900 50).map (yesAt S) := by kernel_rfl
theorem odd_39 (S : List DO) : (List.range' 1950 50).map (oddAt S) = (List.range' 1950 50).map (yesAt S) := by kernel_rfl
theorem odd_40 (S : List DO) : (List.range' 2000 50).map (oddAt S) = (List.range' 2000 50).map (yesAt S) := by kernel_rfl
theorem odd_41 (S : List DO) : (List.range' 2050 50).map (oddAt S) = (List.range' 2050 50).map (yesAt S) := by kernel_rfl
theorem odd_42 (S : List DO) : (List.range' 2100 50).map (oddAt S) = (List.range' 2100 50).map (yesAt S) := by kernel_rfl
theorem odd_43 (S : List DO) : (List.range' 2150 50).map (oddAt S) = (List.range' 2150 50).map (yesAt S) := by kernel_rfl
theorem odd_44 (S : List DO) : (List.range' 2200 50).map (oddAt S) = (List.range' 2200 50).map (yesAt S) := by kernel_rfl
theorem odd_45 (S : List DO) : (List.range' 2250 50).map (oddAt S) = (List.range' 2250 50).map (yesAt S) := by kernel_rfl
theorem odd_46 (S : List DO) : (List.range' 2300 50).map (oddAt S) = (List.range' 2300 50).map (yesAt S) := by kernel_rfl
theorem odd_47 (S : List DO) : (List.range' 2350 50).map (oddAt S) = (List.range' 2350 50).map (yesAt S) := by kernel_rfl
theorem odd_48 (S : List DO) : (List.range' 2400 50).map (oddAt S) = (List.range' 2400 50).map (yesAt S) := by kernel_rfl
theorem odd_49 (S : List DO) : (List.range' 2450 50).map (oddAt S) = (List.range' 2450 50).map (yesAt S) := by kernel_rfl
theorem odd_50 (S : List DO) : (List.range' 2500 50).map (oddAt S) = (List.range' 2500 50).map (yesAt S) := by kernel_rfl
theorem odd_51 (S : List DO) : (List.range' 2550 50).map (oddAt S) = (List.range' 2550 50).map (yesAt S) := by kernel_rfl
theorem odd_52 (S : List DO) : (List.range' 2600 50).map (oddAt S) = (List.range' 2600 50).map (yesAt S) := by kernel_rfl
theorem odd_53 (S : List DO) : (List.range' 2650 50).map (oddAt S) = (List.range' 2650 50).map (yesAt S) := by kernel_rfl
theorem odd_54 (S : List DO) : (List.range' 2700 50).map (oddAt S) = (List.range' 2700 50).map (yesAt S) := by kernel_rfl
theorem odd_55 (S : List DO) : (List.range' 2750 50).map (oddAt S) = (List.range' 2750 50).map (yesAt S) := by kernel_rfl
theorem odd_56 (S : List DO) : (List.range' 2800 50).map (oddAt S) = (List.range' 2800 50).map (yesAt S) := by kernel_rfl
theorem odd_57 (S : List DO) : (List.range' 2850 50).map (oddAt S) = (List.range' 2850 50).map (yesAt S) := by kernel_rfl
theorem odd_58 (S : List DO) : (List.range' 2900 50).map (oddAt S) = (List.range' 2900 50).map (yesAt S) := by kernel_rfl
theorem odd_59 (S : List DO) : (List.range' 2950 50).map (oddAt S) = (List.range' 2950 50).map (yesAt S) := by kernel_rfl
theorem odd_60 (S : List DO) : (List.range' 3000 50).map (oddAt S) = (List.range' 3000 50).map (yesAt S) := by kernel_rfl
theorem odd_61 (S : List DO) : (List.range' 3050 50).map (oddAt S) = (List.range' 3050 50).map (yesAt S) := by kernel_rfl
theorem odd_62 (S : List DO) : (List.range' 3100 50).map (oddAt S) = (List.range' 3100 50).map (yesAt S) := by kernel_rfl
theorem odd_63 (S : List DO) : (List.range' 3150 50).map (oddAt S) = (List.range' 3150 50).map (yesAt S) := by kernel_rfl
theorem odd_64 (S : List DO) : (List.range' 3200 50).map (oddAt S) = (List.range' 3200 50).map (yesAt S) := by kernel_rfl
theorem odd_65 (S : List DO) : (List.range' 3250 50).map (oddAt S) = (List.range' 3250 50).map (yesAt S) := by kernel_rfl
theorem odd_66 (S : List DO) : (List.range' 3300 50).map (oddAt S) = (List.range' 3300 50).map (yesAt S) := by kernel_rfl
theorem odd_67 (S : List DO) : (List.range' 3350 50).map (oddAt S) = (List.range' 3350 50).map (yesAt S) := by kernel_rfl
theorem odd_68 (S : List DO) : (List.range' 3400 50).map (oddAt S) = (List.range' 3400 50).map (yesAt S) := by kernel_rfl
theorem odd_69 (S : List DO) : (List.range' 3450 50).map (oddAt S) = (List.range' 3450 50).map (yesAt S) := by kernel_rfl
theorem odd_70 (S : List DO) : (List.range' 3500 50).map (oddAt S) = (List.range' 3500 50).map (yesAt S) := by kernel_rfl
theorem odd_71 (S : List DO) : (List.range' 3550 50).map (oddAt S) = (List.range' 3550 50).map (yesAt S) := by kernel_rfl
theorem odd_72 (S : List DO) : (List.range' 3600 50).map (oddAt S) = (List.range' 3600 50).map (yesAt S) := by kernel_rfl
theorem odd_73 (S : List DO) : (List.range' 3650 50).map (oddAt S) = (List.range' 3650 50).map (yesAt S) := by kernel_rfl
theorem odd_74 (S : List DO) : (List.range' 3700 50).map (oddAt S) = (List.range' 3700 50).map (yesAt S) := by kernel_rfl
theorem odd_75 (S : List DO) : (List.range' 3750 50).map (oddAt S) = (List.range' 3750 50).map (yesAt S) := by kernel_rfl
theorem odd_76 (S : List DO) : (List.range' 3800 50).map (oddAt S) = (List.range' 3800 50).map (yesAt S) := by kernel_rfl
theorem odd_77 (S : List DO) : (List.range' 3850 50).map (oddAt S) = (List.range' 3850 50).map (yesAt S) := by kernel_rfl
theorem odd_78 (S : List DO) : (List.range' 3900 50).map (oddAt S) = (List.range' 3900 50).map (yesAt S) := by kernel_rfl
theorem odd_79 (S : List DO) : (List.range' 3950 50).map (oddAt S) = (List.range' 3950 50).map (yesAt S) := by kernel_rfl
theorem odd_80 (S : List DO) : (List.range' 4000 50).map (oddAt S) = (List.range' 4000 50).map (yesAt S) := by kernel_rfl
theorem odd_81 (S : List DO) : (List.range' 4050 50).map (oddAt S) = (List.range' 4050 50).map (yesAt S) := by kernel_rfl
theorem odd_82 (S : List DO) : (List.range' 4100 50).map (oddAt S) = (List.range' 4100 50).map (yesAt S) := by kernel_rfl
theorem odd_83 (S : List DO) : (List.range' 4150 50).map (oddAt S) = (List.range' 4150 50).map (yesAt S) := by kernel_rfl
theorem odd_84 (S : List DO) : (List.range' 4200 50).map (oddAt S) = (List.range' 4200 50).map (yesAt S) := by kernel_rfl
theorem odd_85 (S : List DO) : (List.range' 4250 50).map (oddAt S) = (List.range' 4250 50).map (yesAt S) := by kernel_rfl
theorem odd_86 (S : List DO) : (List.range' 4300 50).map (oddAt S) = (List.range' 4300 50).map (yesAt S) := by kernel_rfl
theorem odd_87 (S : List DO) : (List.range' 4350 50).map (oddAt S) = (List.range' 4350 50).map (yesAt S) := by kernel_rfl
theorem odd_88 (S : List DO) : (List.range' 4400 50).map (oddAt S) = (List.range' 4400 50).map (yesAt S) := by kernel_rfl
theorem odd_89 (S : List DO) : (List.range' 4450 50).map (oddAt S) = (List.range' 4450 50).map (yesAt S) := by kernel_rfl
theorem odd_90 (S : List DO) : (List.range' 4500 50).map (oddAt S) = (List.range' 4500 50).map (yesAt S) := by kernel_rfl
theorem odd_91 (S : List DO) : (List.range' 4550 50).map (oddAt S) = (List.range' 4550 50).map (yesAt S) := by kernel_rfl
theorem odd_92 (S : List DO) : (List.range' 4600 50).map (oddAt S) = (List.range' 4600 50).map (yesAt S) := by kernel_rfl
theorem odd_93 (S : List DO) : (List.range' 4650 50).map (oddAt S) = (List.range' 4650 50).map (yesAt S) := by kernel_rfl
theorem odd_94 (S : List DO) : (List.range' 4700 50).map (oddAt S) = (List.range' 4700 50).map (yesAt S) := by kernel_rfl
theorem odd_95 (S : List DO) : (List.range' 4750 50).map (oddAt S) = (List.range' 4750 50).map (yesAt S) := by kernel_rfl
theorem odd_96 (S : List DO) : (List.range' 4800 50).map (oddAt S) = (List.range' 4800 50).map (yesAt S) := by kernel_rfl
theorem odd_97 (S : List DO) : (List.range' 4850 50).map (oddAt S) = (List.range' 4850 50).map (yesAt S) := by kernel_rfl
theorem odd_all (S : List DO) (k : Nat) (hk : k < 4900) : oddAt S k = .ok (.bl true) S :=
  if h0 : k < 50 then of_chunk (odd_0 S) k (by omega) (by omega) else
  if h1 : k < 100 then of_chunk (odd_1 S) k (by omega) (by omega) else
  if h2 : k < 150 then of_chunk (odd_2 S) k (by omega) (by omega) else
  if h3 : k < 200 then of_chunk (odd_3 S) k (by omega) (by omega) else
  if h4 : k < 250 then of_chunk (odd_4 S) k (by omega) (by omega) else
  if h5 : k < 300 then of_chunk (odd_5 S) k (by omega) (by omega) else
  if h6 : k < 350 then of_chunk (odd_6 S) k (by omega) (by omega) else
  if h7 : k < 400 then of_chunk (odd_7 S) k (by omega) (by omega) else
  if h8 : k < 450 then of_chunk (odd_8 S) k (by omega) (by omega) else
  if h9 : k < 500 then of_chunk (odd_9 S) k (by omega) (by omega) else
  if h10 : k < 550 then of_chunk (odd_10 S) k (by omega) (by omega) else
  if h11 : k < 600 then of_chunk (odd_11 S) k (by omega) (by omega) else
  if h12 : k < 650 then of_chunk (odd_12 S) k (by omega) (by omega) else
  if h13 : k < 700 then of_chunk (odd_13 S) k (by omega) (by omega) else
  if h14 : k < 750 then of_chunk (odd_14 S) k (by omega) (by omega) else
  if h15 : k < 800 then of_chunk (odd_15 S) k (by omega) (by omega) else
  if h16 : k < 850 then of_chunk (odd_16 S) k (by omega) (by omega) else
  if h17 : k < 900 then of_chunk (odd_17 S) k (by omega) (by omega) else
  if h18 : k < 950 then of_chunk (odd_18 S) k (by omega) (by omega) else
  if h19 : k < 1000 then of_chunk (odd_19 S) k (by omega) (by omega) else
  if h20 : k < 1050 then of_chunk (odd_20 S) k (by omega) (by omega) else
  if h21 : k < 1100 then of_chunk (odd_21 S) k (by omega) (by omega) else
  if h22 : k < 1150 then of_chunk (odd_22 S) k (by omega) (by omega) else
  if h23 : k < 1200 then of_chunk (odd_23 S) k (by omega) (by omega) else
  if h24 : k < 1250 then of_chunk (odd_24 S) k (by omega) (by omega) else
  if h25 : k < 1300 then of_chunk (odd_25 S) k (by omega) (by omega) else
  if h26 : k < 1350 then of_chunk (odd_26 S) k (by omega) (by omega) else
  if h27 : k < 1400 then of_chunk (odd_27 S) k (by omega) (by omega) else
  if h28 : k < 1450 then of_chunk (odd_28 S) k (by omega) (by omega) else
  if h29 : k < 1500 then of_chunk (odd_29 S) k (by omega) (by omega) else
  if h30 : k < 1550 then of_chunk (odd_30 S) k (by omega) (by omega) else
  if h31 : k < 1600 then of_chunk (odd_31 S) k (by omega) (by omega) else
  if h32 : k < 1650 then of_chunk (odd_32 S) k (by omega) (by omega) else
  if h33 : k < 1700 then of_chunk (odd_33 S) k (by omega) (by omega) else
  if h34 : k < 1750 then of_chunk (odd_34 S) k (by omega) (by omega) else
  if h35 : k < 1800 then of_chunk (odd_35 S) k (by omega) (by omega) else
  if h36 : k < 1850 then of_chunk (odd_36 S) k (by omega) (by omega) else
  if h37 : k < 1900 then of_chunk (odd_37 S) k (by omega) (by omega) else
  if h38 : k < 1950 then of_chunk (odd_38 S) k (by omega) (by omega) else
  if h39 : k < 2000 then of_chunk (odd_39 S) k (by omega) (by omega) else
  if h40 : k < 2050 then of_chunk (odd_40 S) k (by omega) (by omega) else
  if h41 : k < 2100 then of_chunk (odd_41 S) k (by omega) (by omega) else
  if h42 : k < 2150 then of_chunk (odd_42 S) k (by omega) (by omega) else
  if h43 : k < 2200 then of_chunk (odd_43 S) k (by omega) (by omega) else
  if h44 : k < 2250 then of_chunk (odd_44 S) k (by omega) (by omega) else
  if h45 : k < 2300 then of_chunk (odd_45 S) k (by omega) (by omega) else
  if h46 : k < 2350 then of_chunk (odd_46 S) k (by omega) (by omega) else
  if h47 : k < 2400 then of_chunk (odd_47 S) k (by omega) (by omega) else
  if h48 : k < 2450 then of_chunk (odd_48 S) k (by omega) (by omega) else
  if h49 : k < 2500 then of_chunk (odd_49 S) k (by omega) (by omega) else
  if h50 : k < 2550 then of_chunk (odd_50 S) k (by omega) (by omega) else
  if h51 : k < 2600 then of_chunk (odd_51 S) k (by omega) (by omega) else
  if h52 : k < 2650 then of_chunk (odd_52 S) k (by omega) (by omega) else
  if h53 : k < 2700 then of_chunk (odd_53 S) k (by omega) (by omega) else
  if h54 : k < 2750 then of_chunk (odd_54 S) k (by omega) (by omega) else
  if h55 : k < 2800 then of_chunk (odd_55 S) k (by omega) (by omega) else
  if h56 : k < 2850 then of_chunk (odd_56 S) k (by omega) (by omega) else
  if h57 : k < 2900 then of_chunk (odd_57 S) k (by omega) (by omega) else
  if h58 : k < 2950 then of_chunk (odd_58 S) k (by omega) (by omega) else
  if h59 : k < 3000 then of_chunk (odd_59 S) k (by omega) (by omega) else
  if h60 : k < 3050 then of_chunk (odd_60 S) k (by omega) (by omega) else
  if h61 : k < 3100 then of_chunk (odd_61 S) k (by omega) (by omega) else
  if h62 : k < 3150 then of_chunk (odd_62 S) k (by omega) (by omega) else
  if h63 : k < 3200 then of_chunk (odd_63 S) k (by omega) (by omega) else
  if h64 : k < 3250 then of_chunk (odd_64 S) k (by omega) (by omega) else
  if h65 : k < 3300 then of_chunk (odd_65 S) k (by omega) (by omega) else
  if h66 : k < 3350 then of_chunk (odd_66 S) k (by omega) (by omega) else
  if h67 : k < 3400 then of_chunk (odd_67 S) k (by omega) (by omega) else
  if h68 : k < 3450 then of_chunk (odd_68 S) k (by omega) (by omega) else
  if h69 : k < 3500 then of_chunk (odd_69 S) k (by omega) (by omega) else
  if h70 : k < 3550 then of_chunk (odd_70 S) k (by omega) (by omega) else
  if h71 : k < 3600 then of_chunk (odd_71 S) k (by omega) (by omega) else
  if h72 : k < 3650 then of_chunk (odd_72 S) k (by omega) (by omega) else
  if h73 : k < 3700 then of_chunk (odd_73 S) k (by omega) (by omega) else
  if h74 : k < 3750 then of_chunk (odd_74 S) k (by omega) (by omega) else
  if h75 : k < 3800 then of_chunk (odd_75 S) k (by omega) (by omega) else
  if h76 : k < 3850 then of_chunk (odd_76 S) k (by omega) (by omega) else
  if h77 : k < 3900 then of_chunk (odd_77 S) k (by omega) (by omega) else
  if h78 : k < 3950 then of_chunk (odd_78 S) k (by omega) (by omega) else
  if h79 : k < 4000 then of_chunk (odd_79 S) k (by omega) (by omega) else
  if h80 : k < 4050 then of_chunk (odd_80 S) k (by omega) (by omega) else
  if h81 : k < 4100 then of_chunk (odd_81 S) k (by omega) (by omega) else
  if h82 : k < 4150 then of_chunk (odd_82 S) k (by omega) (by omega) else
  if h83 : k < 4200 then of_chunk (odd_83 S) k (by omega) (by omega) else
  if h84 : k < 4250 then of_chunk (odd_84 S) k (by omega) (by omega) else
  if h85 : k < 4300 then of_chunk (odd_85 S) k (by omega) (by omega) else
  if h86 : k < 4350 then of_chunk (odd_86 S) k (by omega) (by omega) else
  if h87 : k < 4400 then of_chunk (odd_87 S) k (by omega) (by omega) else
  if h88 : k < 4450 then of_chunk (odd_88 S) k (by omega) (by omega) else
  if h89 : k < 4500 then of_chunk (odd_89 S) k (by omega) (by omega) else
  if h90 : k < 4550 then of_chunk (odd_90 S) k (by omega) (by omega) else
  if h91 : k < 4600 then of_chunk (odd_91 S) k (by omega) (by omega) else
  if h92 : k < 4650 then of_chunk (odd_92 S) k (by omega) (by omega) else
  if h93 : k < 4700 then of_chunk (odd_93 S) k (by omega) (by omega) else
  if h94 : k < 4750 then of_chunk (odd_94 S) k (by omega) (by omega) else
  if h95 : k < 4800 then of_chunk (odd_95 S) k (by omega) (by omega) else
  if h96 : k < 4850 then of_chunk (odd_96 S) k (by omega) (by omega) else
  of_chunk (odd_97 S) k (by omega) (by omega)
theorem lim_0 (S : List DO) : (List.range' 0 10).map (limAt S) = (List.range' 0 10).map (yesAt S) := by kernel_rfl
theorem lim_1 (S : List DO) : (List.range' 10 10).map (limAt S) = (List.range' 10 10).map (yesAt S) := by kernel_rfl
theorem lim_2 (S : List DO) : (List.range' 20 10).map (limAt S) = (List.range' 20 10).map (yesAt S) := by kernel_rfl
theorem lim_3 (S : List DO) : (List.range' 30 10).map (limAt S) = (List.range' 30 10).map (yesAt S) := by kernel_rfl
theorem lim_4 (S : List DO) : (List.range' 40 10).map (limAt S) = (List.range' 40 10).map (yesAt S) := by kernel_rfl
theorem lim_5 (S : List DO) : (List.range' 50 10).map (limAt S) = (List.range' 50 10).map (yesAt S) := by kernel_rfl
theorem lim_6 (S : List DO) : (List.range' 60 10).map (limAt S) = (List.range' 60 10).map (yesAt S) := by kernel_rfl
theorem lim_7 (S : List DO) : (List.range' 70 10).map (limAt S) = (List.range' 70 10).map (yesAt S) := by kernel_rfl
theorem lim_8 (S : List DO) : (List.range' 80 10).map (limAt S) = (List.range' 80 10).map (yesAt S) := by kernel_rfl
theorem lim_9 (S : List DO) : (List.range' 90 10).map (limAt S) = (List.range' 90 10).map (yesAt S) := by kernel_rfl
theorem lim_10 (S : List DO) : (List.range' 100 10).map (limAt S) = (List.range' 100 10).map (yesAt S) := by kernel_rfl
theorem lim_11 (S : List DO) : (List.range' 110 10).map (limAt S) = (List.range' 110 10).map (yesAt S) := by kernel_rfl
theorem lim_12 (S : List DO) : (List.range' 120 10).map (limAt S) = (List.range' 120 10).map (yesAt S) := by kernel_rfl
theorem lim_13 (S : List DO) : (List.range' 130 10).map (limAt S) = (List.range' 130 10).map (yesAt S) := by kernel_rfl
theorem lim_14 (S : List DO) : (List.range' 140 10).map (limAt S) = (List.range' 140 10).map (yesAt S) := by kernel_rfl
theorem lim_15 (S : List DO) : (List.range' 150 1).map (limAt S) = (List.range' 150 1).map (yesAt S) := by kernel_rfl
theorem lim_all (S : List DO) (k : Nat) (hk : k < 151) : limAt S k = .ok (.bl true) S :=
  if h0 : k < 10 then of_chunk (lim_0 S) k (by omega) (by omega) else
  if h1 : k < 20 then of_chunk (lim_1 S) k (by omega) (by omega) else
  if h2 : k < 30 then of_chunk (lim_2 S) k (by omega) (by omega) else
  if h3 : k < 40 then of_chunk (lim_3 S) k (by omega) (by omega) else
  if h4 : k < 50 then of_chunk (lim_4 S) k (by omega) (by omega) else
  if h5 : k < 60 then of_chunk (lim_5 S) k (by omega) (by omega) else
  if h6 : k < 70 then of_chunk (lim_6 S) k (by omega) (by omega) else
  if h7 : k < 80 then of_chunk (lim_7 S) k (by omega) (by omega) else
  if h8 : k < 90 then of_chunk (lim_8 S) k (by omega) (by omega) else
  if h9 : k < 100 then of_chunk (lim_9 S) k (by omega) (by omega) else
  if h10 : k < 110 then of_chunk (lim_10 S) k (by omega) (by omega) else
  if h11 : k < 120 then of_chunk (lim_11 S) k (by omega) (by omega) else
  if h12 : k < 130 then of_chunk (lim_12 S) k (by omega) (by omega) else
  if h13 : k < 140 then of_chunk (lim_13 S) k (by omega) (by omega) else
  if h14 : k < 150 then of_chunk (lim_14 S) k (by omega) (by omega) else
  of_chunk (lim_15 S) k (by omega) (by omega)
end KA

namespace KA
open PySem PySem.Spec L2 DL
/-! ### the same value -/
theorem same_int (m_rec : Fn) (a : Int) (S : List DO) : mb_l_law_same m_rec [.int a, .int a] S = .ok (.bl true) S := by
  unfold mb_l_law_same
  exact fn_rt (s_seq (s_ifF (S1 := S) rfl rfl) (s_seq (s_ifF (S1 := S) rfl rfl) (s_seq (s_ifF (S1 := S) rfl rfl) (s_seq (s_ifF (S1 := S) rfl rfl) (s_ret (v_and (S1 := S) rfl (v_and (S1 := S) rfl (by rw [v_ecmp (S1 := S) (S2 := S) cmpEq (v_var rfl) (v_var rfl), iEq_eq, decide_eq_true rfl]))))))))
theorem same_tup2 (m_rec : Fn) (a1 a2 b1 b2 : DV) (S : List DO) (h1 : m_rec [a1, b1] S = .ok (.bl true) S) (h2 : m_rec [a2, b2] S = .ok (.bl true) S) : mb_l_law_same m_rec [.tup [a1, a2], .tup [b1, b2]] S = .ok (.bl true) S := by
  unfold mb_l_law_same
  refine fn_rt (s_seq (s_ifF (S1 := S) rfl rfl) (s_seq (s_ifF (S1 := S) rfl rfl) (s_seqR (s_ifT (S1 := S) rfl (s_seq (s_ifF (S1 := S) rfl rfl) (s_ret (v_blt (ds := [.lst [.bl true, .bl true]]) (v_cons (S1 := S) (v_comp (ds := [.int 0, .int 1]) (S1 := S) (by kernel_rfl) (by decide +kernel) ?_) rfl) (by kernel_rfl))))))))
  refine c_cons (S1 := S) rfl rfl (v_call (v_cons (v_eBin (v_var rfl) (v_var rfl) rfl) (v_cons (v_eBin (v_var rfl) (v_var rfl) rfl) rfl)) h1) ?_
  exact c_cons (S1 := S) rfl rfl (v_call (v_cons (v_eBin (v_var rfl) (v_var rfl) rfl) (v_cons (v_eBin (v_var rfl) (v_var rfl) rfl) rfl)) h2) rfl
theorem same_tup3 (m_rec : Fn) (a1 a2 a3 b1 b2 b3 : DV) (S : List DO) (h1 : m_rec [a1, b1] S = .ok (.bl true) S) (h2 : m_rec [a2, b2] S = .ok (.bl true) S) (h3 : m_rec [a3, b3] S = .ok (.bl true) S) : mb_l_law_same m_rec [.tup [a1, a2, a3], .tup [b1, b2, b3]] S = .ok (.bl true) S := by
  unfold mb_l_law_same
  refine fn_rt (s_seq (s_ifF (S1 := S) rfl rfl) (s_seq (s_ifF (S1 := S) rfl rfl) (s_seqR (s_ifT (S1 := S) rfl (s_seq (s_ifF (S1 := S) rfl rfl) (s_ret (v_blt (ds := [.lst [.bl true, .bl true, .bl true]]) (v_cons (S1 := S) (v_comp (ds := [.int 0, .int 1, .int 2]) (S1 := S) (by kernel_rfl) (by decide +kernel) ?_) rfl) (by kernel_rfl))))))))
  refine c_cons (S1 := S) rfl rfl (v_call (v_cons (v_eBin (v_var rfl) (v_var rfl) rfl) (v_cons (v_eBin (v_var rfl) (v_var rfl) rfl) rfl)) h1) ?_
  refine c_cons (S1 := S) rfl rfl (v_call (v_cons (v_eBin (v_var rfl) (v_var rfl) rfl) (v_cons (v_eBin (v_var rfl) (v_var rfl) rfl) rfl)) h2) ?_
  exact c_cons (S1 := S) rfl rfl (v_call (v_cons (v_eBin (v_var rfl) (v_var rfl) rfl) (v_cons (v_eBin (v_var rfl) (v_var rfl) rfl) rfl)) h3) rfl
theorem same_curve (a b x y : Int) (S : List DO) : m_l_law_same 4 [.tup [.int a, .int b, .tup [.int x, .int y]], .tup [.int a, .int b, .tup [.int x, .int y]]] S = .ok (.bl true) S :=
  same_tup3 (m_l_law_same 3) _ _ _ _ _ _ S (same_int (m_l_law_same 2) a S) (same_int (m_l_law_same 2) b S) (same_tup2 (m_l_law_same 2) _ _ _ _ S (same_int (m_l_law_same 1) x S) (same_int (m_l_law_same 1) y S))
/-! ### the tape -/
theorem tape_loop (ns : List Int) (S : List DO) : ∀ (l : List Int) (s : Int) (x : SL), 0 ≤ s → s < 1000003 → ∃ s' x', sForL (agN 2) b_l_law_tape_1 (l.map DV.int) [.val (.scr ns), .val (.int s), x] S = .nx [.val (.scr ns), .val (.int s'), x'] S
  | [], s, x, _, _ => ⟨s, x, rfl⟩
  | i :: l, s, x, h0, h1 => by
    obtain ⟨s', x', e⟩ := tape_loop ns S l ((s * 31 + i) % 1000003) (.val (.int i)) (Int.emod_nonneg _ (by decide)) (Int.emod_lt_of_pos _ (by decide))
    exact ⟨s', x', f_step rfl (s_set (v_mod (v_blt (v_cons (S1 := S) (v_add (v_mul (v_var rfl) rfl (by omega) (by omega)) (v_var rfl)) rfl) rfl) rfl (by decide))) e⟩
theorem tape_comp (β : List SL) (hb : 2 < β.length) (S : List DO) : ∀ l : List Int, cLoop (agN 2) tYes' (eBlt gAbs (aConsF (eBlt gInt (aConsF (eVarF 2) aNil)) aNil)) (l.map DV.int) β S = .ok (l.map fun i => DV.int (if i < 0 then -i else i)) S
  | [] => rfl
  | i :: l => c_cons (S1 := S) rfl rfl (v_blt (v_cons (S1 := S) (v_blt (v_cons (S1 := S) (v_var (d := .int i) (by rw [List.getElem?_set_self hb])) rfl) rfl) rfl) rfl) (tape_comp β hb S l)
theorem ints_map (f : Int → Int) : ∀ l : List Int, ints? (l.map fun i => DV.int (f i)) = some (l.map f)
  | [] => rfl
  | i :: l => by
    show (ints? (l.map fun i => DV.int (f i))).map _ = _
    rw [ints_map f l]
    rfl
theorem tape_ok (ns : List Int) (hn : ns.length ≤ 63) : ∃ c s, m_l_law_tape [.scr ns] [] = .ok (.obj 0) [.tape c s] := by
  obtain ⟨s, x, e⟩ := tape_loop ns [] ns 7 .emp (by decide) (by decide)
  refine ⟨ns.map fun i => if i < 0 then -i else i, s + 1, ?_⟩
  unfold m_l_law_tape
  refine fn_rt (s_seq (ρ1 := [.val (.scr ns), .val (.int 7), .emp]) (S1 := []) (s_set rfl) (s_seq (ρ1 := [.val (.scr ns), .val (.int s), x]) (S1 := []) (s_for (ds := ns.map DV.int) (S1 := []) rfl e) ?_))
  have hc : eCompF (iOf (eVarF 0)) (agN 2) tYes' (eBlt gAbs (aConsF (eBlt gInt (aConsF (eVarF 2) aNil)) aNil)) [2] [.val (.scr ns), .val (.int s), x] [] = .ok (.lst (ns.map fun i => DV.int (if i < 0 then -i else i))) [] :=
    v_comp (ds := ns.map DV.int) (S1 := []) rfl (by rw [List.length_map]; omega) (tape_comp _ (by simp [blkS, wipeS]) [] ns)
  have hs : eBinF DL.gAdd cYes oAdd (eVarF 1) (eLit (.int 1)) [.val (.scr ns), .val (.int s), x] [] = .ok (.int (s + 1)) [] := v_add (v_var rfl) rfl
  exact s_retTape hc hs (ints_map (fun i => if i < 0 then -i else i) ns)
/-! ### the common divisor with 6 -/
theorem div_run (S : List DO) (r : Int) (h0 : 0 ≤ r) (h1 : r < 6) : ∃ g : Int, sWhile t_l_law_divisor_1 b_l_law_divisor_2 999999999999 [.val (.int 6), .val (.int r)] S = .nx [.val (.int g), .val (.int 0)] S ∧ ((r = 1 ∨ r = 5) → g = 1) := by
  have c : r = 0 ∨ r = 1 ∨ r = 2 ∨ r = 3 ∨ r = 4 ∨ r = 5 := by omega
  rw [← sWhileF_eq]
  rcases c with z | z | z | z | z | z <;> subst z
  · exact ⟨6, by kernel_rfl, by decide⟩
  · exact ⟨1, by kernel_rfl, by decide⟩
  · exact ⟨2, by kernel_rfl, by decide⟩
  · exact ⟨3, by kernel_rfl, by decide⟩
  · exact ⟨2, by kernel_rfl, by decide⟩
  · exact ⟨1, by kernel_rfl, by decide⟩
theorem div_ok (n : Int) (h0 : 0 ≤ n) (S : List DO) : ∃ g : Int, m_l_law_divisor [.int n, .int 6] S = .ok (.int g) S ∧ ((n % 6 = 1 ∨ n % 6 = 5) → g = 1) := by
  obtain ⟨g, e, hg⟩ := div_run S (n % 6) (Int.emod_nonneg _ (by decide)) (Int.emod_lt_of_pos _ (by decide))
  refine ⟨g, ?_, hg⟩
  unfold m_l_law_divisor
  refine fn_rt (s_seq (ρ1 := [.val (.int n), .val (.int 6)]) (S1 := S) (s_F (s_F (s_par (v_cons (S1 := S) (v_blt (d := .int n) (v_cons (S1 := S) (v_var rfl) rfl) ?_) rfl)))) (s_seq (ρ1 := [.val (.int g), .val (.int 0)]) (S1 := S) (s_wh ?_) (s_ret (v_var rfl))))
  · show some (DV.int (if n < 0 then -n else n)) = _
    rw [if_neg (by omega)]
  · rw [FU_succ]
    refine s_whT (ρ1 := [.val (.int 6), .val (.int (n % 6))]) (S1 := S) (S2 := S) ?_ (s_F (s_F (s_par (v_cons (S1 := S) (v_var rfl) (v_cons (S1 := S) (v_mod (v_blt (v_cons (S1 := S) (v_var rfl) rfl) rfl) (v_var rfl) (by decide)) rfl))))) e
    unfold t_l_law_divisor_1
    rfl
/-! ### a turn -/
theorem coprime_loop (S : List DO) (a0 a1 a2 a4 a5 a6 a7 a8 a9 a10 a11 : SL) : ∀ (d fuel : Nat) (n : Int), 0 ≤ n → (n + d) % 6 = 1 → d < fuel → ∃ n' : Int, n ≤ n' ∧ sWhile t_law_1 b_law_2 fuel [a0, a1, a2, .val (.int n), a4, a5, a6, a7, a8, a9, a10, a11] S = .nx [a0, a1, a2, .val (.int n'), a4, a5, a6, a7, a8, a9, a10, a11] S
  | d, 0, n, _, _, h => by omega
  | d, k + 1, n, h0, hd, hk => by
    obtain ⟨g, e, hg⟩ := div_ok n h0 S
    have ht : t_law_1 [a0, a1, a2, .val (.int n), a4, a5, a6, a7, a8, a9, a10, a11] S = .ok (!decide (g = 1)) S := by
      unfold t_law_1
      rw [v_cmp (S1 := S) (S2 := S) cmpNe (v_call (v_cons (S1 := S) (v_var rfl) rfl) e) rfl, iEq_eq]
    by_cases h1 : g = 1
    · rw [decide_eq_true h1] at ht
      exact ⟨n, Int.le_refl _, s_whF ht⟩
    · rw [decide_eq_false h1] at ht
      cases d with
      | zero => exact absurd (hg (by omega)) h1
      | succ d =>
        obtain ⟨n', l, e2⟩ := coprime_loop S a0 a1 a2 a4 a5 a6 a7 a8 a9 a10 a11 d k (n + 1) (by omega) (by rw [← hd]; congr 1; omega) (by omega)
        exact ⟨n', by omega, s_whT ht (s_set (v_add (v_var rfl) rfl)) e2⟩
theorem odd_slot {ρ : List SL} {S : List DO} {d : DV} (h : ρ[5]? = some (.val d)) (ho : eCallF (m_l_law_same 4) (aConsF (eCallF m_is_likely (aConsF (eLit d) aNil)) (aConsF (eCallF m_l_law_is_prime (aConsF (eLit d) aNil)) aNil)) [] S = .ok (.bl true) S) :
    eCallF (m_l_law_same 4) (aConsF (eCallF m_is_likely (aConsF (eVarF 5) aNil)) (aConsF (eCallF m_l_law_is_prime (aConsF (eVarF 5) aNil)) aNil)) ρ S = .ok (.bl true) S := by
  have hv : ∀ S, eVarF 5 ρ S = .ok d S := fun S => v_var h
  rw [← ho]
  simp only [eCallF, aConsF, hv, eLit, aNil]
theorem curve_ok (n p : Int) (S : List DO) (hn : 0 < n) (h1 : 1 ≤ p) (h2 : p ≤ 500) : m_curve_at [.int n, .int p] S = .ok (.tup [.int ((7 * p + 1) % n), .int (((p / 97 + 2) * (p / 97 + 2) - (p % 97 + 1) * (p % 97 + 1) * (p % 97 + 1) - (7 * p + 1) * (p % 97 + 1)) % n), .tup [.int ((p % 97 + 1) % n), .int ((p / 97 + 2) % n)]]) S := by
  have x0 : 1 ≤ p % 97 + 1 := by omega
  have x1 : p % 97 + 1 ≤ 97 := by omega
  have y1 : 0 ≤ p / 97 + 2 := by omega
  have y2 : p / 97 + 2 ≤ 100 := by omega
  have e : 7 * p = p * 7 := Int.mul_comm _ _
  rw [e]
  have xx : (p % 97 + 1) * (p % 97 + 1) ≤ 97 * 97 := Int.mul_le_mul x1 x1 (by omega) (by decide)
  have xx0 : 0 ≤ (p % 97 + 1) * (p % 97 + 1) := Int.mul_nonneg (by omega) (by omega)
  unfold m_curve_at
  refine fn_rt (s_seq (s_F (s_F (s_F (s_par3 (v_cons (v_add (v_mod (v_var rfl) rfl (by decide)) rfl) (v_cons (v_add (v_div (v_var rfl) rfl (by decide) (by decide)) rfl) (v_cons (v_add (v_mul (v_var rfl) rfl (by omega) (by omega)) rfl) rfl))))))) (s_seq (s_set (v_mod (v_sub (v_sub (v_mul (v_var rfl) (v_var rfl) (by omega) (by omega)) (v_mul (v_mul (v_var rfl) (v_var rfl) (by omega) (by omega)) (v_var rfl) (by omega) (by omega))) (v_mul (v_var rfl) (v_var rfl) (by omega) (by omega))) (v_var rfl) hn)) (s_ret (v_tup (v_cons (v_mod (v_var rfl) (v_var rfl) hn) (v_cons (v_var rfl) (v_cons (v_tup (v_cons (v_mod (v_var rfl) (v_var rfl) hn) (v_cons (v_mod (v_var rfl) (v_var rfl) hn) rfl))) rfl)))))))
end KA

namespace KA
open PySem PySem.Spec L2 DL
/-! ### the law -/
theorem num_ok (t : Int) (x0 x3 x4 x5 x6 x7 x8 x9 x10 x11 : SL) (c : List Int) (s : Int) : ∃ (n : Int) (c' : List Int) (s' : Int), 5 ≤ n ∧ n < 1000000000000 - 1000 ∧
    eIfF (tCmpF DL.gLt iLt (eVarF 2) (eLit (.int 4))) (eBinF DL.gAdd cYes oAdd (eLit (.int 5)) (eCallF m_l_law_draw (aConsF (eVarF 1) (aConsF (eLit (.int 9000)) aNil)))) (eBinF DL.gAdd cYes oAdd (eBin DL.gPow (eLit (.int 10)) (eLit (.int 6))) (eCallF m_l_law_draw (aConsF (eVarF 1) (aConsF (eBin DL.gPow (eLit (.int 10)) (eLit (.int 9))) aNil)))) [x0, .val (.obj 0), .val (.int t), x3, x4, x5, x6, x7, x8, x9, x10, x11] [.tape c s] = .ok (.int n) [.tape c' s'] := by
  by_cases h : t < 4
  · obtain ⟨r, c', s', e, h0, h1⟩ := draw_ok 9000 c s (by decide) (by decide)
    exact ⟨5 + r, c', s', by omega, by omega, v_ifT (S1 := [.tape c s]) (by rw [v_cmp (S1 := [.tape c s]) (S2 := [.tape c s]) cmpLt (v_var rfl) rfl, iLt_eq, decide_eq_true h]) (v_add rfl (v_call (v_cons (v_var rfl) rfl) e))⟩
  · obtain ⟨r, c', s', e, h0, h1⟩ := draw_ok 1000000000 c s (by decide) (by decide)
    exact ⟨1000000 + r, c', s', by omega, by omega, v_ifF (S1 := [.tape c s]) (by rw [v_cmp (S1 := [.tape c s]) (S2 := [.tape c s]) cmpLt (v_var rfl) rfl, iLt_eq, decide_eq_false h]) (v_add (S1 := [.tape c s]) (by kernel_rfl) (v_call (ds := [.obj 0, .int 1000000000]) (v_cons (v_var rfl) (by kernel_rfl)) e))⟩
theorem odd_lit (r : Int) (h0 : 0 ≤ r) (h1 : r < 4900) (S : List DO) : eCallF (m_l_law_same 4) (aConsF (eCallF m_is_likely (aConsF (eLit (.int (5 + 2 * r))) aNil)) (aConsF (eCallF m_l_law_is_prime (aConsF (eLit (.int (5 + 2 * r))) aNil)) aNil)) [] S = .ok (.bl true) S := by
  obtain ⟨k, rfl⟩ := Int.eq_ofNat_of_zero_le h0
  have := odd_all S k (by omega)
  unfold oddAt at this
  have e : (5 + 2 * (k : Int)) = Int.ofNat (5 + 2 * k) := by
    show _ = ((5 + 2 * k : Nat) : Int)
    omega
  rw [e]
  exact this
theorem turn_ok (t : Int) (x0 x3 x4 x5 x6 x7 x8 x9 x10 x11 : SL) (c : List Int) (s : Int) : ∃ (y3 y4 y5 y6 y7 y8 y9 y10 : SL) (c' : List Int) (s' : Int),
    b_law_3 [x0, .val (.obj 0), .val (.int t), x3, x4, x5, x6, x7, x8, x9, x10, x11] [.tape c s] = .nx [x0, .val (.obj 0), .val (.int t), y3, y4, y5, y6, y7, y8, y9, y10, x11] [.tape c' s'] := by
  obtain ⟨n, c1, s1, n0, n1, e1⟩ := num_ok t x0 x3 x4 x5 x6 x7 x8 x9 x10 x11 c s
  obtain ⟨l, e2, e3⟩ := enough_ok n [.tape c1 s1] (by omega) (by omega)
  obtain ⟨r, c2, s2, e4, r0, r1⟩ := draw_ok 4900 c1 s1 (by decide) (by decide)
  have e5 := odd_lit r r0 r1 [.tape c2 s2]
  have hd : ∃ d : Nat, d < 6 ∧ (n + 1 + d) % 6 = 1 := by
    have : (n + 1) % 6 = 0 ∨ (n + 1) % 6 = 1 ∨ (n + 1) % 6 = 2 ∨ (n + 1) % 6 = 3 ∨ (n + 1) % 6 = 4 ∨ (n + 1) % 6 = 5 := by omega
    rcases this with z | z | z | z | z | z
    · exact ⟨1, by decide, by omega⟩
    · exact ⟨0, by decide, by omega⟩
    · exact ⟨5, by decide, by omega⟩
    · exact ⟨4, by decide, by omega⟩
    · exact ⟨3, by decide, by omega⟩
    · exact ⟨2, by decide, by omega⟩
  obtain ⟨d, hd6, hd⟩ := hd
  obtain ⟨n', hn', e6⟩ := coprime_loop [.tape c2 s2] x0 (.val (.obj 0)) (.val (.int t)) (.val (.int l)) (.val (.int (5 + 2 * r))) x6 x7 x8 x9 x10 x11 d FU (n + 1) (by omega) hd (by unfold FU; omega)
  obtain ⟨p, c3, s3, e7, p0, p1⟩ := draw_ok 500 c2 s2 (by decide) (by decide)
  have e8 := curve_ok n' (1 + p) [.tape c3 s3] (by omega) (by omega) (by omega)
  have m0 : 0 < n' := by omega
  have z0 : 1 ≤ (1 + p) % 97 + 1 := by omega
  have z1 : (1 + p) % 97 + 1 ≤ 97 := by omega
  have xx : ((1 + p) % 97 + 1) * ((1 + p) % 97 + 1) ≤ 97 * 97 := Int.mul_le_mul z1 z1 (by omega) (by decide)
  have xx0 : 0 ≤ ((1 + p) % 97 + 1) * ((1 + p) % 97 + 1) := Int.mul_nonneg (by omega) (by omega)
  refine ⟨.val (.int n'), .val (.int l), .val (.int (5 + 2 * r)), .val (.int (1 + p)), .val (.int ((1 + p) % 97 + 1)), .val (.int ((1 + p) / 97 + 2)), .val (.int (7 * (1 + p) + 1)), .val (.tup [.int ((7 * (1 + p) + 1) % n'), .int ((((1 + p) / 97 + 2) * ((1 + p) / 97 + 2) - ((1 + p) % 97 + 1) * ((1 + p) % 97 + 1) * ((1 + p) % 97 + 1) - (7 * (1 + p) + 1) * ((1 + p) % 97 + 1)) % n'), .tup [.int (((1 + p) % 97 + 1) % n'), .int (((1 + p) / 97 + 2) % n')]]), c3, s3, ?_⟩
  unfold b_law_3
  refine s_seq (s_set e1) ?_
  refine s_seq (s_set (v_call (v_cons (v_var rfl) rfl) e2)) ?_
  refine s_seq (s_ifF (t_orF (S1 := [.tape c1 s1]) (t_not (k := true) (t_of (v_un (d := .int l) (v_var rfl) rfl))) (t_orF (S1 := [.tape c1 s1]) (t_of (v_un (d := .int l) (v_var rfl) rfl)) (t_not (k := true) (t_of (v_call (v_cons (v_var rfl) (v_cons (v_var rfl) rfl)) e3))))) rfl) ?_
  refine s_seq (s_set (v_add rfl (v_mul rfl (v_call (v_cons (v_var rfl) rfl) e4) (by decide) (by decide)))) ?_
  refine s_seq (s_ifF (t_not (k := true) (t_of (odd_slot rfl e5))) rfl) ?_
  refine s_seq (s_set (v_add (v_var rfl) rfl)) ?_
  refine s_seq (s_wh e6) ?_
  refine s_seq (s_set (v_add rfl (v_call (v_cons (v_var rfl) rfl) e7))) ?_
  refine s_seq (s_F (s_F (s_F (s_par3 (v_cons (S1 := [.tape c3 s3]) (v_add (v_mod (v_blt (v_cons (v_var rfl) rfl) rfl) rfl (by decide)) rfl) (v_cons (S1 := [.tape c3 s3]) (v_add (v_div (v_var rfl) rfl (by decide) (by decide)) rfl) (v_cons (S1 := [.tape c3 s3]) (v_add (v_mul rfl (v_var rfl) (by decide) (by decide)) rfl) rfl))))))) ?_
  refine s_seq (s_set (v_tup (v_cons (v_mod (v_blt (v_cons (v_var rfl) rfl) rfl) (v_var rfl) m0) (v_cons (v_mod (v_blt (v_cons (v_sub (v_sub (v_mul (v_var rfl) (v_var rfl) (by omega) (by omega)) (v_mul (v_mul (v_var rfl) (v_var rfl) (by omega) (by omega)) (v_var rfl) (by omega) (by omega))) (v_mul (v_var rfl) (v_var rfl) (by omega) (by omega))) rfl) rfl) (v_var rfl) m0) (v_cons (v_tup (v_cons (v_mod (v_blt (v_cons (v_var rfl) rfl) rfl) (v_var rfl) m0) (v_cons (v_mod (v_blt (v_cons (v_var rfl) rfl) rfl) (v_var rfl) m0) rfl))) rfl))))) ?_
  exact s_ifF (t_not (k := true) (t_of (v_call (v_cons (v_call (v_cons (v_var rfl) (v_cons (v_var rfl) rfl)) e8) (v_cons (v_var rfl) rfl)) (same_curve _ _ _ _ _)))) rfl
theorem turns_ok : ∀ (l : List Int) (x0 x2 x3 x4 x5 x6 x7 x8 x9 x10 x11 : SL) (c : List Int) (s : Int), ∃ (y2 y3 y4 y5 y6 y7 y8 y9 y10 : SL) (c' : List Int) (s' : Int),
    sForL (agN 2) b_law_3 (l.map DV.int) [x0, .val (.obj 0), x2, x3, x4, x5, x6, x7, x8, x9, x10, x11] [.tape c s] = .nx [x0, .val (.obj 0), y2, y3, y4, y5, y6, y7, y8, y9, y10, x11] [.tape c' s']
  | [], x0, x2, x3, x4, x5, x6, x7, x8, x9, x10, x11, c, s => ⟨_, _, _, _, _, _, _, _, _, c, s, rfl⟩
  | t :: l, x0, x2, x3, x4, x5, x6, x7, x8, x9, x10, x11, c, s => by
    obtain ⟨y3, y4, y5, y6, y7, y8, y9, y10, c1, s1, e⟩ := turn_ok t x0 x3 x4 x5 x6 x7 x8 x9 x10 x11 c s
    obtain ⟨z2, z3, z4, z5, z6, z7, z8, z9, z10, c2, s2, e2⟩ := turns_ok l x0 (.val (.int t)) y3 y4 y5 y6 y7 y8 y9 y10 x11 c1 s1
    exact ⟨z2, z3, z4, z5, z6, z7, z8, z9, z10, c2, s2, f_step rfl e e2⟩
theorem odds_ok : ∀ (l : List Int), (∀ r ∈ l, 0 ≤ r ∧ r < 4900) → ∀ (x0 x1 x2 x3 x4 x5 x6 x7 x8 x9 x10 x11 : SL) (S : List DO), ∃ y5 : SL,
    sForL (agN 5) b_law_4 (l.map fun r => DV.int (5 + 2 * r)) [x0, x1, x2, x3, x4, x5, x6, x7, x8, x9, x10, x11] S = .nx [x0, x1, x2, x3, x4, y5, x6, x7, x8, x9, x10, x11] S
  | [], _, x0, x1, x2, x3, x4, x5, x6, x7, x8, x9, x10, x11, S => ⟨_, rfl⟩
  | r :: l, h, x0, x1, x2, x3, x4, x5, x6, x7, x8, x9, x10, x11, S => by
    obtain ⟨y, e⟩ := odds_ok l (fun q hq => h q (List.mem_cons_of_mem _ hq)) x0 x1 x2 x3 x4 (.val (.int (5 + 2 * r))) x6 x7 x8 x9 x10 x11 S
    have hr := h r (List.mem_cons_self ..)
    exact ⟨y, f_step (S1 := S) rfl (s_ifF (t_not (k := true) (t_of (odd_slot rfl (odd_lit r hr.1 hr.2 S)))) rfl) e⟩
theorem lim_slot {ρ : List SL} {S : List DO} {d : DV} (h : ρ[11]? = some (.val d)) (ho : eCallF (m_l_law_same 4) (aConsF (eCallF m_primes_to (aConsF (eLit d) aNil)) (aConsF (eCallF m_l_law_sieve (aConsF (eLit d) aNil)) aNil)) [] S = .ok (.bl true) S) :
    eCallF (m_l_law_same 4) (aConsF (eCallF m_primes_to (aConsF (eVarF 11) aNil)) (aConsF (eCallF m_l_law_sieve (aConsF (eVarF 11) aNil)) aNil)) ρ S = .ok (.bl true) S := by
  have hv : ∀ S, eVarF 11 ρ S = .ok d S := fun S => v_var h
  rw [← ho]
  simp only [eCallF, aConsF, hv, eLit, aNil]
theorem law_true (ns : List Int) (hn : ns.length ≤ 63) : ∃ S, m_law [.scr ns] [] = .ok (.bl true) S := by
  obtain ⟨c, s, e⟩ := tape_ok ns hn
  obtain ⟨y2, y3, y4, y5, y6, y7, y8, y9, y10, c1, s1, e1⟩ := turns_ok [0, 1, 2, 3, 4, 5] (.val (.scr ns)) .emp .emp .emp .emp .emp .emp .emp .emp .emp .emp c s
  obtain ⟨r, c2, s2, e2, r0, r1⟩ := draw_ok 151 c1 s1 (by decide) (by decide)
  obtain ⟨z5, e3⟩ := odds_ok [0, 2, 1, 10, 22, 43, 1021, 862, 4453] (by decide) (.val (.scr ns)) (.val (.obj 0)) y2 y3 y4 y5 y6 y7 y8 y9 y10 (.val (.int r)) [.tape c2 s2]
  refine ⟨[.tape c2 s2], ?_⟩
  unfold m_law
  rw [← frM_eq]
  refine fn_rt (s_seq (s_set (v_call (v_cons (v_var rfl) rfl) e)) (s_seq (s_for (S1 := [.tape c s]) (ds := [0, 1, 2, 3, 4, 5].map DV.int) (by kernel_rfl) e1) (s_seq (s_set (v_call (v_cons (v_var rfl) rfl) e2)) (s_seq (s_for (S1 := [.tape c2 s2]) (ds := [0, 2, 1, 10, 22, 43, 1021, 862, 4453].map fun r => DV.int (5 + 2 * r)) (by kernel_rfl) e3) (s_ret (lim_slot rfl ?_))))))
  obtain ⟨k, rfl⟩ := Int.eq_ofNat_of_zero_le r0
  exact lim_all [.tape c2 s2] k (by omega)
end KA

open PySem PySem.W PySem.Calls PyProof.Rows
theorem PySem.Challenge.cw_chordkeep_k69_whole_numbers_about_primes_holds : PySem.Challenge.rw_chordkeep_k69_whole_numbers_about_primes.Holds := by
  w_on; o_law
  refine HandSHeadRun.head_any (r := OpenLaw.row PySem.Challenge.rw_chordkeep_k69_whole_numbers_about_primes) (q := view (OpenLaw.row PySem.Challenge.rw_chordkeep_k69_whole_numbers_about_primes).prog [16]) (H := KA.hk) (ob := KA.ob) (M := 4000) (loose := ["power", "whole_root", "is_likely", "enough", "curve_at", "primes_to", "_law_tape", "_law_draw", "_law_same", "_law_divisor", "_law_is_prime", "_law_is_enough", "_law_sieve"]) (d := HandSHeadRun.topDef (OpenLaw.row PySem.Challenge.rw_chordkeep_k69_whole_numbers_about_primes).prog 16) (kwd := []) KA.ob_eq
    (by kernel_rfl) (fun s => by kernel_rfl) KA.run (by kernel_rfl) (by kernel_rfl) (by kernel_rfl) (by rfl) (by first | assumption | decide +kernel) (by decide +kernel) ⟨rfl, rfl, rfl, rfl, rfl, by decide +kernel⟩ ?hw ?hc
  case hw => w_witness2
  case hc =>
    refine DL.walk_ofW (l := PySem.Challenge.rw_chordkeep_k69_whole_numbers_about_primes) (n := 63) (k := 5) (x := "script") (c := KA.c0) (m := KA.m_law) rfl (by decide) (by kernel_rfl) ⟨rfl, by decide, by decide⟩ (fun _ => rfl) ?F KA.law_true
    intro w mg fa h Y G hmg0
    obtain ⟨K, KX, cs⟩ := Y
    have hmg : mg ("law" : PySem.Str) = some (.ref fa) := by
      have e : (HandSHeadRun.topDef (OpenLaw.row PySem.Challenge.rw_chordkeep_k69_whole_numbers_about_primes).prog 16).name = ("law" : PySem.Str) := by kernel_rfl
      rw [← e]
      exact hmg0
    exact ⟨K, KX, KA.facts KX G hmg cs⟩

