import PyProof.Rows.All
import Wide.All
import OpenK.AllK
import Wide.FinOn
import HandS.ForMost
import HandS.IsInst
import HandS.Style
import HandS.Flow
import HandS.TupAny
import HandS.Conv
import HandS.Zip
import HandS.Exc
import HandS.Strs
import HandS.NoneIn
import HandS.Wide
import HandS.Deep
import KE.GoesEnum
import HandS.RaiseMore
import HandS.SortInts
import HandS.SortRule
import PyProof.ReprRoads
import HandS.TupSets
import PyProof.Rows.Range3
import KE.KStateDown
import PyProof.Rows.IntBool
import PyProof.CallStr
import HandS.Dict
import HandS.Small
import HandS.TupLen
import HandS.WordsDict
import KE.KDictWalk
import KE.KPairComp
import HandS.DictComp
import HandS.SetBool
import PyProof.SliceList
import KE.SortData
import KE.DataCmp
import HandS.ExcInit
import HandS.WordsExc
import KE.KExcInit
import KE.KExcIs
import KE.KTryMore
import PyProof.ExcBaseAll.LookupError
import PyProof.ExcBaseAll.RuntimeError
import PyProof.ExcBaseAll.OverflowError
import PyProof.ExcBaseAll.ValueError
import HandS.ExcIs
import HandS.ExcField
import PySem.Challenge.RW_partnercall_k62_repetitions_known_by_han
set_option Elab.async false
set_option linter.all false
set_option maxRecDepth 100000
set_option maxHeartbeats 2000000
namespace DL
open PySem PySem.Spec PyProof.Rows L2
abbrev D := PyData
abbrev SS := L2.St
/-- a key as data -/
def kD : Key → D
  | .inl i => .int i
  | .inr x => .str x
/-- the pairs of a dict, the keys as data; ahead of tuple keys stands a head, so that the data tell the kind -/
def dOf : HO → Option (List (D × V))
  | .dK kvs => some (kvs.map fun p => (kD p.1, p.2))
  | .dT kvs => some ((.none, .non) :: kvs.map fun p => (.tuple (p.1.map kD), p.2))
  | _ => none
/-- a dict that stands; one with int or text keys may be locked -/
def RdK (H : Hp) (a : Addr) (o : HO) : Prop := H a = some o ∨ ∃ od kvs, o = .dK kvs ∧ H a = some (.frz od o)
theorem RdK.rd {H : Hp} {a : Addr} {o : HO} (r : RdK H a o) : Rd H a o := r.elim .inl fun ⟨od, _, _, e⟩ => .inr ⟨od, e⟩
theorem RdK.up {H H' : Hp} {a : Addr} {u : HO} (h : ∀ o, H a = some o → H' a = some o) (r : RdK H a u) : RdK H' a u := by
  rcases r with r | ⟨o, k, e, r⟩
  · exact .inl (h _ r)
  · exact .inr ⟨o, k, e, h _ r⟩
/-- an error object: its class, its dict -/
def XO (cls : Value) (d : Option Addr) (a : Addr) : HO := .ext fun h => ∃ (oe : Obj) (vs : Array Value), h.get? a = some oe ∧ Zc cls d oe ∧ oe.data = .fields vs
/-- data of an error (the class ahead) or of a set (a mark ahead): no dict -/
def isX : List (D × D) → Bool
  | (.none, .int _) :: _ => true
  | (.none, .bool _) :: _ => true
  | _ => false
mutual
inductive Rep (S : Addr → Prop) (H : Hp) : V → D → Prop
  | non : Rep S H .non .none
  | bl (b : Bool) : Rep S H (.bl b) (.bool b)
  | int (i : Int) : Rep S H (.int i) (.int i)
  | str (x : Str) : Rep S H (.str x) (.str x)
  | lst {a : Addr} {xs : List V} {ds : List D} : S a → Rd H a (.lst xs) → RepA S H xs ds → Rep S H (.ref a) (.list ds)
  | tup {a : Addr} {xs : List V} {ds : List D} : S a → H a = some (.tup xs) → RepA S H xs ds → Rep S H (.ref a) (.tuple ds)
  | dct {a : Addr} {o : HO} {ps : List (D × V)} {es : List (D × D)} : S a → RdK H a o → dOf o = some ps → RepK S H ps es → Rep S H (.ref a) (.dict es)
  | exc {a c : Addr} {d : Option Addr} {ps : List (D × V)} {es : List (D × D)} : S a → H a = some (XO (.ref c) d a) → (d = none → ps = []) → (∀ dd, d = some dd → S dd ∧ ∃ f v, ps = [(.str f, v)] ∧ H dd = some (.xd [(f, v)])) → RepK S H ps es → Rep S H (.ref a) (.dict ((.none, .int c) :: es))
  | set {a : Addr} {w : World} {F : Int → Bool} {n : Nat} {ms : List Int} : S a → H a = some (SetO w a F n) → (∀ k, F k = ms.contains k) → n = ms.length → Rep S H (.ref a) (.dict ((.none, .bool true) :: ms.map fun k => (.int k, .none)))
inductive RepA (S : Addr → Prop) (H : Hp) : List V → List D → Prop
  | nil : RepA S H [] []
  | cons {v : V} {vs : List V} {d : D} {ds : List D} : Rep S H v d → RepA S H vs ds → RepA S H (v :: vs) (d :: ds)
inductive RepK (S : Addr → Prop) (H : Hp) : List (D × V) → List (D × D) → Prop
  | nil : RepK S H [] []
  | cons {k : D} {v : V} {d : D} {ps : List (D × V)} {es : List (D × D)} : Rep S H v d → RepK S H ps es → RepK S H ((k, v) :: ps) ((k, d) :: es)
end
theorem Rd.up {H H' : Hp} {a : Addr} {u : HO} (h : ∀ o, H a = some o → H' a = some o) (r : Rd H a u) : Rd H' a u := by
  rcases r with r | ⟨o, r⟩
  · exact .inl (h _ r)
  · exact .inr ⟨o, h _ r⟩
theorem Rd.dom {H : Hp} {a : Addr} {u : HO} (r : Rd H a u) : ∃ o, H a = some o := by
  rcases r with r | ⟨o, r⟩
  · exact ⟨_, r⟩
  · exact ⟨_, r⟩
section
variable {S S' : Addr → Prop} {H H' : Hp}
mutual
theorem Rep.up (h : ∀ a o, S a → H a = some o → S' a ∧ H' a = some o) : ∀ (d : D) (v : V), Rep S H v d → Rep S' H' v d
  | .none, _, r => by cases r; exact .non
  | .bool b, _, r => by cases r; exact .bl b
  | .int i, _, r => by cases r; exact .int i
  | .str x, _, r => by cases r; exact .str x
  | .list ds, _, r => by
    cases r with
    | lst hs hr ha =>
      obtain ⟨o, ho⟩ := Rd.dom hr
      exact .lst (h _ o hs ho).1 (Rd.up (fun o q => (h _ o hs q).2) hr) (RepA.up h ds _ ha)
  | .tuple ds, _, r => by
    cases r with
    | tup hs hr ha =>
      exact .tup (h _ _ hs hr).1 (h _ _ hs hr).2 (RepA.up h ds _ ha)
  | .dict es, _, r => by
    cases r with
    | dct hs hr hd ha =>
      obtain ⟨o, ho⟩ := Rd.dom hr.rd
      exact .dct (h _ o hs ho).1 (RdK.up (fun o q => (h _ o hs q).2) hr) hd (RepK.up h es _ ha)
    | exc hs hr h0 h1 ha =>
      exact .exc (h _ _ hs hr).1 (h _ _ hs hr).2 h0 (fun dd e => by
        obtain ⟨z1, f, v, z2, z3⟩ := h1 dd e
        exact ⟨(h _ _ z1 z3).1, f, v, z2, (h _ _ z1 z3).2⟩) (RepK.up h _ _ ha)
    | set hs hr h1 h2 => exact .set (h _ _ hs hr).1 (h _ _ hs hr).2 h1 h2
theorem RepA.up (h : ∀ a o, S a → H a = some o → S' a ∧ H' a = some o) : ∀ (ds : List D) (vs : List V), RepA S H vs ds → RepA S' H' vs ds
  | [], _, r => by cases r; exact .nil
  | d :: ds, _, r => by
    cases r with
    | cons r1 r2 => exact .cons (Rep.up h d _ r1) (RepA.up h ds _ r2)
theorem RepK.up (h : ∀ a o, S a → H a = some o → S' a ∧ H' a = some o) : ∀ (es : List (D × D)) (ps : List (D × V)), RepK S H ps es → RepK S' H' ps es
  | [], _, r => by cases r; exact .nil
  | (k, d) :: es, _, r => by
    cases r with
    | cons r1 r2 => exact .cons (Rep.up h d _ r1) (RepK.up h es _ r2)
end
theorem Rep.mono {v : V} {d : D} (r : Rep S H v d) (h : ∀ a o, S a → H a = some o → S' a ∧ H' a = some o) : Rep S' H' v d := Rep.up h d v r
theorem RepA.mono {v : List V} {d : List D} (r : RepA S H v d) (h : ∀ a o, S a → H a = some o → S' a ∧ H' a = some o) : RepA S' H' v d := RepA.up h d v r
theorem RepA.length : ∀ {vs : List V} {ds : List D}, RepA S H vs ds → vs.length = ds.length
  | [], ds, r => by cases r; rfl
  | v :: vs, ds, r => by
    cases r with
    | cons r1 r2 => simp [RepA.length r2]
theorem RepA.get : ∀ {vs : List V} {ds : List D} {i : Nat} {v : V}, RepA S H vs ds → vs[i]? = some v → ∃ d, ds[i]? = some d ∧ Rep S H v d
  | [], _, _, _, r, e => by simp at e
  | v :: vs, _, i, x, r, e => by
    cases r with
    | cons r1 r2 =>
      cases i with
      | zero => simp at e; subst e; exact ⟨_, rfl, r1⟩
      | succ i =>
        obtain ⟨d, h1, h2⟩ := RepA.get (i := i) (v := x) r2 (by simpa using e)
        exact ⟨d, by simpa using h1, h2⟩
theorem RepA.get' : ∀ {vs : List V} {ds : List D} {i : Nat} {d : D}, RepA S H vs ds → ds[i]? = some d → ∃ v, vs[i]? = some v ∧ Rep S H v d
  | [], _, _, _, r, e => by cases r; simp at e
  | v :: vs, _, i, x, r, e => by
    cases r with
    | cons r1 r2 =>
      cases i with
      | zero => simp at e; subst e; exact ⟨_, rfl, r1⟩
      | succ i =>
        obtain ⟨d, h1, h2⟩ := RepA.get' (i := i) (d := x) r2 (by simpa using e)
        exact ⟨d, by simpa using h1, h2⟩
theorem RepA.append : ∀ {vs ws : List V} {ds es : List D}, RepA S H vs ds → RepA S H ws es → RepA S H (vs ++ ws) (ds ++ es)
  | [], _, _, _, r, q => by cases r; exact q
  | v :: vs, _, _, _, r, q => by
    cases r with
    | cons r1 r2 => exact .cons r1 (RepA.append r2 q)
theorem RepA.take : ∀ {vs : List V} {ds : List D} (n : Nat), RepA S H vs ds → RepA S H (vs.take n) (ds.take n)
  | [], _, n, r => by cases r; simp; exact .nil
  | v :: vs, _, n, r => by
    cases r with
    | cons r1 r2 =>
      cases n with
      | zero => exact .nil
      | succ n => exact .cons r1 (RepA.take n r2)
theorem RepA.drop : ∀ {vs : List V} {ds : List D} (n : Nat), RepA S H vs ds → RepA S H (vs.drop n) (ds.drop n)
  | [], _, n, r => by cases r; simp; exact .nil
  | v :: vs, _, n, r => by
    cases r with
    | cons r1 r2 =>
      cases n with
      | zero => exact .cons r1 r2
      | succ n => exact RepA.drop n r2
theorem RepA.set {v : V} {d : D} (q : Rep S H v d) : ∀ {vs : List V} {ds : List D} (n : Nat), RepA S H vs ds → RepA S H (vs.set n v) (ds.set n d)
  | [], _, n, r => by cases r; exact .nil
  | w :: vs, _, n, r => by
    cases r with
    | cons r1 r2 =>
      cases n with
      | zero => exact .cons q r2
      | succ n => exact .cons r1 (RepA.set q n r2)
theorem RepA.eraseIdx : ∀ {vs : List V} {ds : List D} (n : Nat), RepA S H vs ds → RepA S H (vs.eraseIdx n) (ds.eraseIdx n)
  | [], _, n, r => by cases r; exact .nil
  | w :: vs, _, n, r => by
    cases r with
    | cons r1 r2 =>
      cases n with
      | zero => exact r2
      | succ n => exact .cons r1 (RepA.eraseIdx n r2)
theorem RepA.reverse : ∀ {vs : List V} {ds : List D}, RepA S H vs ds → RepA S H vs.reverse ds.reverse
  | [], _, r => by cases r; exact .nil
  | v :: vs, _, r => by
    cases r with
    | cons r1 r2 => simpa using RepA.append (RepA.reverse r2) (.cons r1 .nil)
theorem RepA.ints : ∀ {vs : List V} {ns : List Int}, RepA S H vs (ns.map .int) → vs = ns.map V.int
  | _, [], r => by cases r; rfl
  | _, n :: ns, r => by
    cases r with
    | cons r1 r2 => cases r1; rw [RepA.ints r2]; rfl
theorem RepA.of_ints : ∀ (ns : List Int), RepA S H (ns.map V.int) (ns.map .int)
  | [] => .nil
  | n :: ns => .cons (.int n) (RepA.of_ints ns)
theorem RepA.replicate {v : V} {d : D} (q : Rep S H v d) : ∀ n : Nat, RepA S H (List.replicate n v) (List.replicate n d)
  | 0 => .nil
  | n + 1 => .cons q (RepA.replicate q n)
theorem RepA.rep {vs : List V} {ds : List D} (q : RepA S H vs ds) : ∀ n : Nat, RepA S H (List.replicate n vs).flatten (List.replicate n ds).flatten
  | 0 => .nil
  | n + 1 => by rw [List.replicate_succ, List.flatten_cons, List.replicate_succ, List.flatten_cons]; exact q.append (RepA.rep q n)
end
def atom : D → Bool
  | .none => true
  | .bool _ => true
  | .int _ => true
  | .str _ => true
  | _ => false
theorem Rep.atom {S S' : Addr → Prop} {H H' : Hp} {v : V} {d : D} (h : DL.atom d = true) (r : Rep S H v d) : Rep S' H' v d := by
  cases r with
  | non => exact .non
  | bl b => exact .bl b
  | int i => exact .int i
  | str x => exact .str x
  | lst _ _ _ => simp [DL.atom] at h
  | tup _ _ _ => simp [DL.atom] at h
  | dct _ _ _ _ => simp [DL.atom] at h
  | exc _ _ _ _ _ => simp [DL.atom] at h
  | set _ _ _ _ => simp [DL.atom] at h
theorem RepA.atoms {S S' : Addr → Prop} {H H' : Hp} : ∀ {vs : List V} {ds : List D}, ds.all DL.atom = true → RepA S H vs ds → RepA S' H' vs ds
  | _, [], h, r => by cases r; exact .nil
  | _, d :: ds, h, r => by
    cases r with
    | cons r1 r2 =>
      simp only [List.all_cons, Bool.and_eq_true] at h
      exact .cons (r1.atom h.1) (RepA.atoms h.2 r2)
/-- what an own object holds -/
inductive OwnC (S : Addr → Prop) (H : Hp) : HO → D → Prop
  | lst {xs : List V} {ds : List D} : RepA S H xs ds → OwnC S H (.lst xs) (.list ds)
  | dct {o : HO} {ps : List (D × V)} {es : List (D × D)} : dOf o = some ps → RepK S H ps es → OwnC S H o (.dict es)
theorem OwnC.mono {S S' : Addr → Prop} {H H' : Hp} {o : HO} {d : D} (r : OwnC S H o d) (h : ∀ a o, S a → H a = some o → S' a ∧ H' a = some o) : OwnC S' H' o d := by
  cases r with
  | lst r => exact .lst (RepA.up h _ _ r)
  | dct e r => exact .dct e (RepK.up h _ _ r)
theorem OwnC.rep {S : Addr → Prop} {H : Hp} {a : Addr} {o : HO} {d : D} (r : OwnC S H o d) (hs : S a) (e : H a = some o) : Rep S H (.ref a) d := by
  cases r with
  | lst r => exact .lst hs (.inl e) r
  | dct e1 r => exact .dct hs (.inl e) e1 r
theorem OwnC.ntup {S : Addr → Prop} {H : Hp} {o : HO} {d : D} (r : OwnC S H o d) : ∀ xs, o ≠ .tup xs := fun xs e => by
  subst e
  cases r with
  | dct e1 _ => cases e1
theorem OwnC.atom {S : Addr → Prop} {H : Hp} {o : HO} {d : D} (r : OwnC S H o d) : DL.atom d = false := by cases r <;> rfl
inductive Fl where
  | sh | ow | bx
  deriving DecidableEq
abbrev En := List (Option (Fl × D))
inductive RV where
  | sh (d : D) | fr (d : D) | al (i : Nat)
def Own (σ : SS) (ρ : En) (a : Addr) : Prop := ∃ (i : Nat) (fl : Fl) (d : D), ρ[i]? = some (some (fl, d)) ∧ fl ≠ Fl.sh ∧ σ[i]? = some (some (V.ref a))
/-- what is fixed while a def runs: the heap at the entry, the objects of the arguments, the boxes, the slots at the entry -/
structure Pk where
  H0 : Hp
  S : Addr → Prop
  B : Addr → Prop
  σ0 : SS
def Av (P : Pk) (T : Addr → Prop) (σ : SS) (ρ : En) (b : Addr) : Prop := (P.S b ∨ P.H0 b = none) ∧ ¬ Own σ ρ b ∧ ¬ T b
structure Sim (P : Pk) (T : Addr → Prop) (σ : SS) (ρ : En) (H : Hp) : Prop where
  len : σ.length = ρ.length
  sh : ∀ (i : Nat) (d : D), ρ[i]? = some (some (.sh, d)) → ∃ v, σ[i]? = some (some v) ∧ Rep (Av P T σ ρ) H v d
  ow : ∀ (i : Nat) (fl : Fl) (d : D), ρ[i]? = some (some (fl, d)) → fl ≠ .sh → ∃ a o, σ[i]? = some (some (V.ref a)) ∧ H a = some o ∧ OwnC (Av P T σ ρ) H o d
  dj : ∀ (i j : Nat) (fl fl' : Fl) (d d' : D) (a : Addr), ρ[i]? = some (some (fl, d)) → fl ≠ .sh → ρ[j]? = some (some (fl', d')) → fl' ≠ .sh → σ[i]? = some (some (V.ref a)) → σ[j]? = some (some (V.ref a)) → i = j
  new : ∀ (i : Nat) (d : D) (a : Addr), ρ[i]? = some (some (.ow, d)) → σ[i]? = some (some (V.ref a)) → P.H0 a = none
  bx : ∀ (i : Nat) (d : D), ρ[i]? = some (some (.bx, d)) → σ[i]? = P.σ0[i]? ∧ ∀ a : Addr, σ[i]? = some (some (V.ref a)) → P.B a
  tn : ∀ b, T b → (∃ o, H b = some o) ∧ ¬ Own σ ρ b
  keep : ∀ b o, P.H0 b = some o → ¬ P.B b → H b = some o
  dom : ∀ b o, P.H0 b = some o → ∃ o', H b = some o'
  sB : ∀ b, P.B b → ¬ P.S b ∧ ∃ o, P.H0 b = some o
  tp : ∀ b xs, H b = some (.tup xs) → (P.S b ∨ P.H0 b = none) ∧ ¬ T b
theorem Sim.owL {P : Pk} {T : Addr → Prop} {σ : SS} {ρ : En} {H : Hp} (S : Sim P T σ ρ H) (i : Nat) (fl : Fl) (ds : List D) (e : ρ[i]? = some (some (fl, .list ds))) (n : fl ≠ .sh) :
    ∃ a xs, σ[i]? = some (some (V.ref a)) ∧ H a = some (.lst xs) ∧ RepA (Av P T σ ρ) H xs ds := by
  obtain ⟨a, o, q1, q2, q3⟩ := S.ow i fl _ e n
  cases q3 with
  | lst r => exact ⟨a, _, q1, q2, r⟩
/-- a step: what was not owned stands, ownership does not grow but over new objects -/
structure Stp (σ : SS) (ρ : En) (H : Hp) (σ' : SS) (ρ' : En) (H' : Hp) : Prop where
  fr : ∀ b o, H b = some o → ¬ Own σ ρ b → H' b = some o
  os : ∀ b, Own σ' ρ' b → Own σ ρ b ∨ H b = none
  dm : ∀ b o, H b = some o → ∃ o', H' b = some o'
theorem Stp.refl {σ : SS} {ρ : En} {H : Hp} : Stp σ ρ H σ ρ H := ⟨fun _ _ h _ => h, fun _ h => .inl h, fun _ o h => ⟨o, h⟩⟩
theorem Stp.trans {σ σ1 σ2 : SS} {ρ ρ1 ρ2 : En} {H H1 H2 : Hp} (a : Stp σ ρ H σ1 ρ1 H1) (b : Stp σ1 ρ1 H1 σ2 ρ2 H2) : Stp σ ρ H σ2 ρ2 H2 where
  fr := fun c o h n => b.fr c o (a.fr c o h n) fun q => by
    rcases a.os c q with z | z
    · exact n z
    · rw [h] at z; cases z
  os := fun c q => by
    rcases b.os c q with z | z
    · exact a.os c z
    · right
      cases e : H c with
      | none => rfl
      | some o =>
        obtain ⟨o', e'⟩ := a.dm c o e
        rw [z] at e'; cases e'
  dm := fun c o h => by
    obtain ⟨o', e⟩ := a.dm c o h
    exact b.dm c o' e
/-- the slots that are set stay set (within an expression) -/
def Kp (ρ ρ' : En) : Prop := ∀ (i : Nat) x, ρ[i]? = some (some x) → ∃ y, ρ'[i]? = some (some y)
theorem Kp.refl {ρ : En} : Kp ρ ρ := fun _ x h => ⟨x, h⟩
theorem Kp.trans {ρ ρ1 ρ2 : En} (a : Kp ρ ρ1) (b : Kp ρ1 ρ2) : Kp ρ ρ2 := fun i x h => by
  obtain ⟨y, e⟩ := a i x h
  exact b i y e
def Val (P : Pk) (T : Addr → Prop) (σ : SS) (ρ : En) (H : Hp) (v : V) : RV → Prop
  | .sh d => Rep (Av P T σ ρ) H v d
  | .fr d => ∃ a o, v = .ref a ∧ T a ∧ H a = some o ∧ P.H0 a = none ∧ OwnC (Av P T σ ρ) H o d
  | .al i => σ[i]? = some (some v) ∧ ∃ x, ρ[i]? = some (some x)
/-- the temporaries behind a value -/
def Tx (T : Addr → Prop) (H : Hp) (v : V) (T' : Addr → Prop) : RV → Prop
  | .fr _ => ∃ a, v = .ref a ∧ H a = none ∧ T' = fun b => T b ∨ b = a
  | _ => T' = T
/-- growth of the temporaries -/
def Tg (T : Addr → Prop) (H : Hp) (T' : Addr → Prop) : Prop := (∀ b, T b → T' b) ∧ ∀ b, T' b → T b ∨ H b = none
theorem Tg.refl {T : Addr → Prop} {H : Hp} : Tg T H T := ⟨fun _ h => h, fun _ h => .inl h⟩
theorem Tx.tg {T T' : Addr → Prop} {H : Hp} {v : V} {r : RV} (h : Tx T H v T' r) : Tg T H T' := by
  cases r with
  | sh d => cases h; exact .refl
  | al i => cases h; exact .refl
  | fr d =>
    obtain ⟨a, _, hn, rfl⟩ := h
    exact ⟨fun b h => .inl h, fun b h => h.elim .inl fun e => by subst e; exact .inr hn⟩
theorem Tg.trans {T T1 T2 : Addr → Prop} {H H1 : Hp} (a : Tg T H T1) (b : Tg T1 H1 T2) (dm : ∀ b o, H b = some o → ∃ o', H1 b = some o') : Tg T H T2 := by
  refine ⟨fun c h => b.1 c (a.1 c h), fun c h => ?_⟩
  rcases b.2 c h with h | h
  · exact a.2 c h
  · right
    cases e : H c with
    | none => rfl
    | some o =>
      obtain ⟨o', e'⟩ := dm c o e
      rw [h] at e'; cases e'
section
variable {P : Pk} {T T' : Addr → Prop} {σ σ' : SS} {ρ ρ' : En} {H H' : Hp} {v : V} {r : RV}
theorem av_step (st : Stp σ ρ H σ' ρ' H') (tg : Tg T H T') : ∀ a o, Av P T σ ρ a → H a = some o → Av P T' σ' ρ' a ∧ H' a = some o := fun a o ⟨h1, h2, h3⟩ e => by
  refine ⟨⟨h1, fun q => ?_, fun q => ?_⟩, st.fr a o e h2⟩
  · rcases st.os a q with z | z
    · exact h2 z
    · rw [e] at z; cases z
  · rcases tg.2 a q with z | z
    · exact h3 z
    · rw [e] at z; cases z
theorem Val.step (h : Val P T σ ρ H v r) (S : Sim P T σ ρ H) (st : Stp σ ρ H σ ρ' H') (kp : Kp ρ ρ') (tg : Tg T H T') : Val P T' σ ρ' H' v r := by
  cases r with
  | sh d => exact Rep.mono h (av_step st tg)
  | fr d =>
    obtain ⟨a, o, e1, ta, ha, h0, hr⟩ := h
    exact ⟨a, o, e1, tg.1 a ta, st.fr a _ ha (S.tn a ta).2, h0, hr.mono (av_step st tg)⟩
  | al i =>
    obtain ⟨e, x, q⟩ := h
    exact ⟨e, kp i x q⟩
/-- fewer temporaries -/
theorem Sim.less (S : Sim P T σ ρ H) (h : ∀ b, T' b → T b) : Sim P T' σ ρ H :=
  have av : ∀ a o, Av P T σ ρ a → H a = some o → Av P T' σ ρ a ∧ H a = some o := fun a o ⟨h1, h2, h3⟩ e => ⟨⟨h1, h2, fun q => h3 (h a q)⟩, e⟩
  { S with
    sh := fun i d e => let ⟨v, e1, r⟩ := S.sh i d e; ⟨v, e1, r.mono av⟩
    ow := fun i fl d e n => let ⟨a, o, e2, e3, r⟩ := S.ow i fl d e n; ⟨a, o, e2, e3, r.mono av⟩
    tn := fun b q => S.tn b (h b q)
    tp := fun b xs e => ⟨(S.tp b xs e).1, fun q => (S.tp b xs e).2 (h b q)⟩ }
end
end DL
set_option Elab.async false
set_option linter.all false
set_option maxRecDepth 100000
set_option maxHeartbeats 2000000
namespace DL
open PySem PySem.Spec PyProof.Rows L2
def dat (ρ : En) : RV → Option D
  | .sh d => some d
  | .fr d => some d
  | .al i => match ρ[i]? with
    | some (some (_, d)) => some d
    | _ => none
def datA (ρ : En) : List RV → Option (List D)
  | [] => some []
  | r :: rs => match dat ρ r, datA ρ rs with
    | some d, some ds => some (d :: ds)
    | _, _ => none
def rel (ρ : En) : RV → Option En
  | .al i => match ρ[i]? with
    | some (some (.ow, d)) => some (ρ.set i (some (.sh, d)))
    | some (some (.sh, _)) => some ρ
    | _ => none
  | _ => some ρ
def relA (ρ : En) : List RV → Option En
  | [] => some ρ
  | r :: rs => match rel ρ r with
    | some ρ1 => relA ρ1 rs
    | none => none
/-- a value read from outside: its own object anywhere, its parts within S -/
def Top (S : Addr → Prop) (H : Hp) (v : V) : D → Prop
  | .list ds => ∃ a xs, v = .ref a ∧ Rd H a (.lst xs) ∧ RepA S H xs ds
  | .dict es => ∃ a, v = .ref a ∧ (isX es = false → ∃ o ps, RdK H a o ∧ dOf o = some ps ∧ RepK S H ps es) ∧ (isX es = true → Rep S H (.ref a) (.dict es))
  | d => Rep S H v d
theorem dOf_nx {S : Addr → Prop} {H : Hp} {o : HO} {ps : List (D × V)} {es : List (D × D)} (h : dOf o = some ps) (r : RepK S H ps es) : isX es = false := by
  cases o with
  | dK kvs =>
    cases h
    cases kvs with
    | nil => cases r; rfl
    | cons p kvs =>
      obtain ⟨k, v⟩ := p
      cases r
      cases k <;> rfl
  | dT kvs =>
    cases h
    cases r with
    | cons r1 r2 => cases r1; rfl
  | _ => cases h
theorem OwnC.top {S : Addr → Prop} {H : Hp} {a : Addr} {o : HO} {d : D} (r : OwnC S H o d) (e : H a = some o) : Top S H (.ref a) d := by
  cases r with
  | lst r => exact ⟨a, _, rfl, .inl e, r⟩
  | dct e1 r => exact ⟨a, rfl, fun _ => ⟨_, _, .inl e, e1, r⟩, fun z => by rw [dOf_nx e1 r] at z; cases z⟩
theorem Rep.top {S : Addr → Prop} {H : Hp} {v : V} {d : D} (r : Rep S H v d) : Top S H v d := by
  cases r with
  | non => exact Rep.non
  | bl b => exact Rep.bl b
  | int i => exact Rep.int i
  | str x => exact Rep.str x
  | lst h1 h2 h3 => exact ⟨_, _, rfl, h2, h3⟩
  | tup h1 h2 h3 => exact Rep.tup h1 h2 h3
  | dct h1 h2 h3 h4 => exact ⟨_, rfl, fun _ => ⟨_, _, h2, h3, h4⟩, fun _ => .dct h1 h2 h3 h4⟩
  | exc h1 h2 h3 h4 h5 => exact ⟨_, rfl, nofun, fun _ => .exc h1 h2 h3 h4 h5⟩
  | set h1 h2 h3 h4 => exact ⟨_, rfl, nofun, fun _ => .set h1 h2 h3 h4⟩
section
variable {P : Pk} {T T' : Addr → Prop} {σ σ' : SS} {ρ ρ' : En} {H H' : Hp} {v : V} {r : RV}
theorem get_set_sh {i j : Nat} {d : D} {x : Option (Fl × D)} (h : (ρ.set i (some (.sh, d)))[j]? = some x) : (j = i ∧ x = some (.sh, d)) ∨ (j ≠ i ∧ ρ[j]? = some x) := by
  by_cases hj : j = i
  · subst hj
    left
    rw [List.getElem?_set] at h
    simp only [if_true] at h
    split at h
    · cases h; exact ⟨rfl, rfl⟩
    · cases h
  · right
    rw [List.getElem?_set_ne (Ne.symm hj)] at h
    exact ⟨hj, h⟩
theorem own_set_sh {i : Nat} {d : D} {b : Addr} (h : Own σ (ρ.set i (some (.sh, d))) b) : ∃ j fl e, j ≠ i ∧ ρ[j]? = some (some (fl, e)) ∧ fl ≠ .sh ∧ σ[j]? = some (some (V.ref b)) := by
  obtain ⟨j, fl, e, h1, h2, h3⟩ := h
  rcases get_set_sh h1 with ⟨_, e1⟩ | ⟨hj, e1⟩
  · cases e1; exact absurd rfl h2
  · exact ⟨j, fl, e, hj, e1, h2, h3⟩
theorem dat_set_sh {i : Nat} {fl : Fl} {d : D} (h : ρ[i]? = some (some (fl, d))) (r : RV) : dat (ρ.set i (some (.sh, d))) r = dat ρ r := by
  cases r with
  | sh d => rfl
  | fr d => rfl
  | al j =>
    unfold dat
    by_cases hj : i = j
    · subst hj
      have hl : i < ρ.length := (List.getElem?_eq_some_iff.mp h).1
      simp only [List.getElem?_set_self hl, h]
    · simp only [List.getElem?_set_ne hj]
/-- an owned slot is shared from now on -/
theorem Sim.give {i : Nat} {d : D} (S : Sim P T σ ρ H) (h : ρ[i]? = some (some (.ow, d))) : Sim P T σ (ρ.set i (some (.sh, d))) H ∧ ∃ v, σ[i]? = some (some v) ∧ Rep (Av P T σ (ρ.set i (some (.sh, d)))) H v d := by
  have ow : ∀ b, Own σ (ρ.set i (some (.sh, d))) b → Own σ ρ b := fun b q => by
    obtain ⟨j, fl, e, _, h1, h2, h3⟩ := own_set_sh q
    exact ⟨j, fl, e, h1, h2, h3⟩
  have av : ∀ a o, Av P T σ ρ a → H a = some o → Av P T σ (ρ.set i (some (.sh, d))) a ∧ H a = some o := fun a o ⟨h1, h2, h3⟩ e => ⟨⟨h1, fun q => h2 (ow a q), h3⟩, e⟩
  obtain ⟨a, o, e2, e3, e4⟩ := S.ow i .ow d h (by decide)
  have rp : Rep (Av P T σ (ρ.set i (some (.sh, d)))) H (.ref a) d := by
    refine (e4.mono av).rep ⟨.inr (S.new i _ a h e2), fun q => ?_, fun q => (S.tn a q).2 ⟨i, _, _, h, by decide, e2⟩⟩ e3
    obtain ⟨j, fl, e, hj, h1, h2, h3⟩ := own_set_sh q
    exact hj (S.dj j i fl .ow e _ a h1 h2 h (by decide) h3 e2)
  refine ⟨?_, .ref a, e2, rp⟩
  refine ⟨by rw [List.length_set]; exact S.len, fun j e h1 => ?_, fun j fl e h1 h2 => ?_, fun j k fl fl' e e' a' h1 h2 h3 h4 h5 h6 => ?_, fun j e a' h1 h2 => ?_, fun j e h1 => ?_, fun b q => ⟨(S.tn b q).1, fun z => (S.tn b q).2 (ow b z)⟩, S.keep, S.dom, S.sB, S.tp⟩
  · rcases get_set_sh h1 with ⟨rfl, e1⟩ | ⟨hj, e1⟩
    · cases e1; exact ⟨_, e2, rp⟩
    · obtain ⟨v, q1, q2⟩ := S.sh j e e1
      exact ⟨v, q1, q2.mono av⟩
  · rcases get_set_sh h1 with ⟨rfl, e1⟩ | ⟨hj, e1⟩
    · cases e1; exact absurd rfl h2
    · obtain ⟨a', o', q2, q3, q4⟩ := S.ow j fl e e1 h2
      exact ⟨a', o', q2, q3, q4.mono av⟩
  · rcases get_set_sh h1 with ⟨rfl, e1⟩ | ⟨hj, e1⟩
    · cases e1; exact absurd rfl h2
    · rcases get_set_sh h3 with ⟨rfl, e3⟩ | ⟨hk, e3⟩
      · cases e3; exact absurd rfl h4
      · exact S.dj j k fl fl' e e' a' e1 h2 e3 h4 h5 h6
  · rcases get_set_sh h1 with ⟨rfl, e1⟩ | ⟨hj, e1⟩
    · cases e1
    · exact S.new j e a' e1 h2
  · rcases get_set_sh h1 with ⟨rfl, e1⟩ | ⟨hj, e1⟩
    · cases e1
    · exact S.bx j e e1
theorem rel_al {i : Nat} : rel ρ (.al i) = match ρ[i]? with
    | some (some (.ow, d)) => some (ρ.set i (some (.sh, d)))
    | some (some (.sh, _)) => some ρ
    | _ => none := rfl
theorem dat_al' {i : Nat} : dat ρ (.al i) = match ρ[i]? with
    | some (some (_, d)) => some d
    | _ => none := rfl
theorem rel_spec (h : rel ρ r = some ρ') : ρ' = ρ ∨ ∃ i d, r = .al i ∧ ρ[i]? = some (some (.ow, d)) ∧ ρ' = ρ.set i (some (.sh, d)) := by
  cases r with
  | sh d => exact .inl (Option.some.inj h).symm
  | fr d => exact .inl (Option.some.inj h).symm
  | al i =>
    rw [rel_al] at h
    cases e : ρ[i]? with
    | none => rw [e] at h; cases h
    | some x =>
      cases x with
      | none => rw [e] at h; cases h
      | some y =>
        obtain ⟨fl, d⟩ := y
        cases fl with
        | sh => rw [e] at h; exact .inl (Option.some.inj h).symm
        | ow => rw [e] at h; exact .inr ⟨i, d, rfl, e, (Option.some.inj h).symm⟩
        | bx => rw [e] at h; cases h
theorem rel_dat (h : rel ρ r = some ρ') (q : RV) : dat ρ' q = dat ρ q := by
  rcases rel_spec h with rfl | ⟨i, d, rfl, e, rfl⟩
  · rfl
  · exact dat_set_sh e q
theorem rel_stp (h : rel ρ r = some ρ') : Stp σ ρ H σ ρ' H ∧ Kp ρ ρ' := by
  rcases rel_spec h with rfl | ⟨i, d, rfl, e, rfl⟩
  · exact ⟨.refl, .refl⟩
  · refine ⟨⟨fun _ _ h _ => h, fun b q => ?_, fun _ o h => ⟨o, h⟩⟩, fun j x q => ?_⟩
    · obtain ⟨j, fl, e, _, h1, h2, h3⟩ := own_set_sh q
      exact .inl ⟨j, fl, e, h1, h2, h3⟩
    · by_cases hj : i = j
      · subst hj
        exact ⟨_, List.getElem?_set_self (List.getElem?_eq_some_iff.mp e).1⟩
      · exact ⟨x, by rw [List.getElem?_set_ne hj]; exact q⟩
theorem Sim.rel (S : Sim P T σ ρ H) (h : rel ρ r = some ρ') : Sim P T σ ρ' H := by
  rcases rel_spec h with rfl | ⟨i, d, rfl, e, rfl⟩
  · exact S
  · exact (S.give e).1
theorem dat_al {i : Nat} {d : D} (h : dat ρ (.al i) = some d) : ∃ fl, ρ[i]? = some (some (fl, d)) := by
  rw [dat_al'] at h
  cases e : ρ[i]? with
  | none => rw [e] at h; cases h
  | some x =>
    cases x with
    | none => rw [e] at h; cases h
    | some y =>
      obtain ⟨fl, d'⟩ := y
      rw [e] at h
      cases h
      exact ⟨fl, rfl⟩
/-- a value that is let go of, as shared data; T0: the temporaries without it -/
theorem Val.toSh {T0 : Addr → Prop} {d : D} (V : Val P T σ ρ H v r) (S : Sim P T σ ρ H) (h : rel ρ r = some ρ') (hd : dat ρ r = some d) (h0 : ∀ b, T0 b → T b) (hf : ∀ d a, r = .fr d → v = .ref a → ¬ T0 a) : Rep (Av P T0 σ ρ') H v d := by
  have st : ∀ a o, Av P T σ ρ' a → H a = some o → Av P T0 σ ρ' a ∧ H a = some o := fun a o ⟨h1, h2, h3⟩ e => ⟨⟨h1, h2, fun q => h3 (h0 a q)⟩, e⟩
  cases r with
  | sh e => cases h; cases hd; exact Rep.mono V st
  | fr e =>
    cases h; cases hd
    obtain ⟨a, o, e1, ta, ha, hn, hr⟩ := V
    subst e1
    exact (hr.mono st).rep ⟨.inr hn, (S.tn a ta).2, hf _ a rfl rfl⟩ ha
  | al i =>
    obtain ⟨e1, _⟩ := V
    obtain ⟨fl, e2⟩ := dat_al hd
    rcases rel_spec h with rfl | ⟨j, d', e3, e4, rfl⟩
    · cases fl with
      | sh =>
        obtain ⟨v', q1, q2⟩ := S.sh i d e2
        rw [e1] at q1; cases q1
        exact q2.mono st
      | ow =>
        unfold DL.rel at h
        simp only [e2] at h
        have q := congrArg (fun z => z.map (fun y => y[i]?)) h
        simp only [Option.map_some] at q
        rw [List.getElem?_set_self (List.getElem?_eq_some_iff.mp e2).1, e2] at q
        cases q
      | bx => unfold DL.rel at h; simp only [e2] at h; cases h
    · cases e3
      rw [e4] at e2; cases e2
      obtain ⟨_, v', q1, q2⟩ := S.give e4
      rw [e1] at q1; cases q1
      exact q2.mono st
/-- peeked at -/
theorem Val.top {d : D} (V : Val P T σ ρ H v r) (S : Sim P T σ ρ H) (hd : dat ρ r = some d) : Top (Av P T σ ρ) H v d := by
  cases r with
  | sh e => cases hd; exact Rep.top V
  | fr e =>
    cases hd
    obtain ⟨a, o, e1, ta, ha, hn, hr⟩ := V
    subst e1
    exact hr.top ha
  | al i =>
    obtain ⟨e1, _⟩ := V
    obtain ⟨fl, e2⟩ := dat_al hd
    by_cases hf : fl = .sh
    · subst hf
      obtain ⟨v', q1, q2⟩ := S.sh i d e2
      rw [e1] at q1; cases q1
      exact q2.top
    · obtain ⟨a, o, q2, q3, q4⟩ := S.ow i fl d e2 hf
      rw [e1] at q2; cases q2
      exact q4.top q3
/-- a new object: a temporary -/
theorem own_dom {b : Addr} (S : Sim P T σ ρ H) (h : Own σ ρ b) : ∃ o, H b = some o := by
  obtain ⟨i, fl, d, h1, h2, h3⟩ := h
  obtain ⟨a, o, q2, q3, q4⟩ := S.ow i fl d h1 h2
  rw [h3] at q2; cases q2
  exact ⟨_, q3⟩
theorem tup_own {b : Addr} {xs : List V} (S : Sim P T σ ρ H) (h : H b = some (.tup xs)) : ¬ Own σ ρ b := fun ⟨i, fl, d, h1, h2, h3⟩ => by
  obtain ⟨a, o, q2, q3, q4⟩ := S.ow i fl d h1 h2
  rw [h3] at q2; cases q2
  rw [h] at q3; cases q3
  exact q4.ntup xs rfl
theorem h0_none {p : Addr} (S : Sim P T σ ρ H) (hp : H p = none) : P.H0 p = none := by
  cases e : P.H0 p with
  | none => rfl
  | some o =>
    obtain ⟨o', e'⟩ := S.dom p o e
    rw [hp] at e'; cases e'
theorem Sim.alloc {p : Addr} {o : HO} (S : Sim P T σ ρ H) (hp : H p = none) (nt : ∀ xs, o ≠ .tup xs := by exact nofun) : Sim P (fun b => T b ∨ b = p) σ ρ (upd H p o) ∧ Stp σ ρ H σ ρ (upd H p o) := by
  have up : ∀ b u, H b = some u → upd H p o b = some u := fun b u e => by rw [upd_ne (ne_of_none e hp)]; exact e
  have av : ∀ a u, Av P T σ ρ a → H a = some u → Av P (fun b => T b ∨ b = p) σ ρ a ∧ upd H p o a = some u := fun a u ⟨h1, h2, h3⟩ e => ⟨⟨h1, h2, fun q => q.elim h3 fun z => ne_of_none e hp z⟩, up a u e⟩
  refine ⟨⟨S.len, fun i d e => ?_, fun i fl d e n => ?_, S.dj, S.new, S.bx, fun b q => ?_, fun b u e n => up b u (S.keep b u e n), fun b u e => ?_, S.sB, fun b xs e => ?_⟩, ⟨fun b u e _ => up b u e, fun b q => .inl q, fun b u e => ⟨u, up b u e⟩⟩⟩
  · obtain ⟨v, q1, q2⟩ := S.sh i d e
    exact ⟨v, q1, q2.mono av⟩
  · obtain ⟨a, o, q2, q3, q4⟩ := S.ow i fl d e n
    exact ⟨a, o, q2, up a _ q3, q4.mono av⟩
  · rcases q with q | rfl
    · obtain ⟨⟨u, e⟩, n⟩ := S.tn b q
      exact ⟨⟨u, up b u e⟩, n⟩
    · refine ⟨⟨o, upd_same⟩, fun z => ?_⟩
      obtain ⟨u, e⟩ := own_dom S z
      rw [hp] at e; cases e
  · obtain ⟨u', e'⟩ := S.dom b u e
    exact ⟨u', up b u' e'⟩
  · by_cases hb : b = p
    · subst hb
      rw [upd_same] at e
      exact absurd (Option.some.inj e) (nt xs)
    · rw [upd_ne hb] at e
      exact ⟨(S.tp b xs e).1, fun q => q.elim (S.tp b xs e).2 hb⟩
/-- a new object, no temporary -/
theorem Sim.allocT {p : Addr} {o : HO} (S : Sim P T σ ρ H) (hp : H p = none) : Sim P T σ ρ (upd H p o) ∧ Stp σ ρ H σ ρ (upd H p o) := by
  have up : ∀ b u, H b = some u → upd H p o b = some u := fun b u e => by rw [upd_ne (ne_of_none e hp)]; exact e
  have av : ∀ a u, Av P T σ ρ a → H a = some u → Av P T σ ρ a ∧ upd H p o a = some u := fun a u h e => ⟨h, up a u e⟩
  refine ⟨⟨S.len, fun i d e => ?_, fun i fl d e n => ?_, S.dj, S.new, S.bx, fun b q => ?_, fun b u e n => up b u (S.keep b u e n), fun b u e => ?_, S.sB, fun b xs e => ?_⟩, ⟨fun b u e _ => up b u e, fun b q => .inl q, fun b u e => ⟨u, up b u e⟩⟩⟩
  · obtain ⟨v, q1, q2⟩ := S.sh i d e
    exact ⟨v, q1, q2.mono av⟩
  · obtain ⟨a, o, q2, q3, q4⟩ := S.ow i fl d e n
    exact ⟨a, o, q2, up a _ q3, q4.mono av⟩
  · obtain ⟨⟨u, e⟩, n⟩ := S.tn b q
    exact ⟨⟨u, up b u e⟩, n⟩
  · obtain ⟨u', e'⟩ := S.dom b u e
    exact ⟨u', up b u' e'⟩
  · by_cases hb : b = p
    · subst hb
      refine ⟨.inr (h0_none S hp), fun q => ?_⟩
      obtain ⟨⟨u, e⟩, _⟩ := S.tn b q
      rw [hp] at e; cases e
    · rw [upd_ne hb] at e
      exact S.tp b xs e
end
section
variable (X : Cx)
def WE (e : Expr) (σ : SS) (H : Hp) (Q : VK) : Prop :=
  ∀ (pins : List (Addr × Obj)) (s : Shared), Inv X pins σ H s → wpAny (model X.prog X.w) X.A (eval e X.env) (EP X pins σ Q) X.xe s
def WT (e : Expr) (σ : SS) (H : Hp) (Q : Bool → Hp → Prop) : Prop :=
  ∀ (pins : List (Addr × Obj)) (s : Shared), Inv X pins σ H s → wpAny (model X.prog X.w) X.A (isTrue e X.env (eval e X.env)) (TP X pins σ Q) X.xe s
def WW (e : Expr) (σ : SS) (H : Hp) (Q : Bool → Hp → Prop) : Prop :=
  ∀ (whole : Sem Value) (pins : List (Addr × Obj)) (s : Shared), Inv X pins σ H s → wpAny (model X.prog X.w) X.A (isTrue e X.env whole) (TP X pins σ Q) X.xe s
def WA (es : List Expr) (σ : SS) (H : Hp) (Q : List V → Hp → Prop) : Prop :=
  ∀ (pos : Pos) (pins : List (Addr × Obj)) (s : Shared), Inv X pins σ H s → wpAny (model X.prog X.w) X.A (spliced (backTo pos (starEach es X.env))) (AP X pins σ Q) X.xe s
def WS (st : Stmt) (Ds : Ends) (σ : SS) (H : Hp) : Prop :=
  ∀ (pins : List (Addr × Obj)) (s : Shared), Inv X pins σ H s → wpAny (model X.prog X.w) X.A (exec st X.env) (SP X pins Ds) X.xe s
def WSs (st : List Stmt) (Ds : Ends) (σ : SS) (H : Hp) : Prop :=
  ∀ (pins : List (Addr × Obj)) (s : Shared), Inv X pins σ H s → wpAny (model X.prog X.w) X.A (execs st X.env) (SP X pins Ds) X.xe s
end
section
variable {X : Cx}
theorem peW {e : Expr} : PE X e (WE X e) := ⟨fun pins s _ _ _ I h => h pins s I⟩
theorem ptW {e : Expr} : PT X e (WT X e) := ⟨fun pins s _ _ _ I h => h pins s I⟩
theorem pwW {e : Expr} : PW X e (WW X e) := ⟨fun wh pins s _ _ _ I h => h wh pins s I⟩
theorem paW {es : List Expr} : PA X es (WA X es) := ⟨fun pos pins s _ _ _ I h => h pos pins s I⟩
theorem psW {st : Stmt} : PS X st (WS X st) := ⟨fun pins s _ _ _ I h => h pins s I⟩
theorem pssW {st : List Stmt} : PSs X st (WSs X st) := ⟨fun pins s _ _ _ I h => h pins s I⟩
theorem PE.we {e : Expr} {t : TE} {σ : SS} {H : Hp} {Q : VK} (h : PE X e t) (q : t σ H Q) : WE X e σ H Q := fun pins s I => h.run pins s σ H Q I q
theorem PT.wt {e : Expr} {t : TT} {σ : SS} {H : Hp} {Q : Bool → Hp → Prop} (h : PT X e t) (q : t σ H Q) : WT X e σ H Q := fun pins s I => h.run pins s σ H Q I q
theorem PW.ww {e : Expr} {t : TT} {σ : SS} {H : Hp} {Q : Bool → Hp → Prop} (h : PW X e t) (q : t σ H Q) : WW X e σ H Q := fun wh pins s I => h.run wh pins s σ H Q I q
theorem PA.wa {es : List Expr} {t : TA} {σ : SS} {H : Hp} {Q : List V → Hp → Prop} (h : PA X es t) (q : t σ H Q) : WA X es σ H Q := fun pos pins s I => h.run pos pins s σ H Q I q
theorem PS.ws {st : Stmt} {t : TS} {σ : SS} {H : Hp} {Ds : Ends} (h : PS X st t) (q : t Ds σ H) : WS X st Ds σ H := fun pins s I => h.run pins s σ H Ds I q
theorem PSs.wss {st : List Stmt} {t : TS} {σ : SS} {H : Hp} {Ds : Ends} (h : PSs X st t) (q : t Ds σ H) : WSs X st Ds σ H := fun pins s I => h.run pins s σ H Ds I q
theorem WW.wt {e : Expr} {σ : SS} {H : Hp} {Q : Bool → Hp → Prop} (h : WW X e σ H Q) : WT X e σ H Q := fun pins s I => h _ pins s I
end
/-- behind an expression -/
structure Aft (P : Pk) (T : Addr → Prop) (σ : SS) (ρ : En) (H : Hp) (r : RV) (ρ' : En) (v : V) (H' : Hp) (T' : Addr → Prop) : Prop where
  sim : Sim P T' σ ρ' H'
  stp : Stp σ ρ H σ ρ' H'
  kp : Kp ρ ρ'
  tx : Tx T H v T' r
  val : Val P T' σ ρ' H' v r
abbrev Fe := En → Option (RV × En)
abbrev Ft := En → Option (Bool × En)
abbrev Fa := En → Option (List RV × En)
def DE (X : Cx) (e : Expr) (f : Fe) : Prop :=
  ∀ P T σ ρ H r ρ', Sim P T σ ρ H → f ρ = some (r, ρ') → ∀ Q : VK, (∀ v H' T', Aft P T σ ρ H r ρ' v H' T' → Q v H') → WE X e σ H Q
/-- a test; whole: also for and, or, whatever stands around -/
def DT (X : Cx) (e : Expr) (f : Ft) : Prop :=
  ∀ P T σ ρ H b ρ', Sim P T σ ρ H → f ρ = some (b, ρ') → ∀ Q : Bool → Hp → Prop, (∀ H', Sim P T σ ρ' H' → Stp σ ρ H σ ρ' H' → Kp ρ ρ' → Q b H') → WT X e σ H Q
def DW (X : Cx) (e : Expr) (f : Ft) : Prop :=
  ∀ P T σ ρ H b ρ', Sim P T σ ρ H → f ρ = some (b, ρ') → ∀ Q : Bool → Hp → Prop, (∀ H', Sim P T σ ρ' H' → Stp σ ρ H σ ρ' H' → Kp ρ ρ' → Q b H') → WW X e σ H Q
theorem DW.dt {X : Cx} {e : Expr} {f : Ft} (h : DW X e f) : DT X e f := fun P T σ ρ H b ρ' S e Q q => (h P T σ ρ H b ρ' S e Q q).wt
def ValA (P : Pk) (T : Addr → Prop) (σ : SS) (ρ : En) (H : Hp) : List V → List RV → Prop
  | [], [] => True
  | v :: vs, r :: rs => Val P T σ ρ H v r ∧ ValA P T σ ρ H vs rs
  | _, _ => False
/-- the fresh ones among several values are new and apart -/
def TxA (H : Hp) : List V → List RV → Prop
  | v :: vs, r :: rs => (∀ d, r = RV.fr d → ∃ a, v = V.ref a ∧ H a = none ∧ ∀ (i : Nat) (d' : D), rs[i]? = some (RV.fr d') → vs[i]? ≠ some (V.ref a)) ∧ TxA H vs rs
  | _, _ => True
structure AftA (P : Pk) (T : Addr → Prop) (σ : SS) (ρ : En) (H : Hp) (rs : List RV) (ρ' : En) (vs : List V) (H' : Hp) (T' : Addr → Prop) : Prop where
  sim : Sim P T' σ ρ' H'
  stp : Stp σ ρ H σ ρ' H'
  kp : Kp ρ ρ'
  tg : Tg T H T'
  tx : TxA H vs rs
  val : ValA P T' σ ρ' H' vs rs
def DA (X : Cx) (es : List Expr) (f : Fa) : Prop :=
  ∀ P T σ ρ H rs ρ', Sim P T σ ρ H → f ρ = some (rs, ρ') → ∀ Q : List V → Hp → Prop, (∀ vs H' T', vs.length = es.length → AftA P T σ ρ H rs ρ' vs H' T' → Q vs H') → WA X es σ H Q
section
variable {P : Pk} {T T' : Addr → Prop} {σ : SS} {ρ ρ' : En} {H H' : Hp}
theorem ValA.step : ∀ {vs : List V} {rs : List RV}, ValA P T σ ρ H vs rs → Sim P T σ ρ H → Stp σ ρ H σ ρ' H' → Kp ρ ρ' → Tg T H T' → ValA P T' σ ρ' H' vs rs
  | [], [], _, _, _, _, _ => trivial
  | v :: vs, r :: rs, h, S, st, kp, tg => ⟨h.1.step S st kp tg, ValA.step h.2 S st kp tg⟩
  | [], _ :: _, h, _, _, _, _ => h
  | _ :: _, [], h, _, _, _, _ => h
theorem ValA.length : ∀ {vs : List V} {rs : List RV}, ValA P T σ ρ H vs rs → vs.length = rs.length
  | [], [], _ => rfl
  | v :: vs, r :: rs, h => by simp [ValA.length h.2]
  | [], _ :: _, h => h.elim
  | _ :: _, [], h => h.elim
theorem ValA.get : ∀ {vs : List V} {rs : List RV} {i : Nat} {r : RV}, ValA P T σ ρ H vs rs → rs[i]? = some r → ∃ v, vs[i]? = some v ∧ Val P T σ ρ H v r
  | [], [], i, r, _, e => by simp at e
  | v :: vs, q :: rs, i, r, h, e => by
    cases i with
    | zero => simp at e; subst e; exact ⟨v, rfl, h.1⟩
    | succ i =>
      obtain ⟨w, h1, h2⟩ := ValA.get (i := i) (r := r) h.2 (by simpa using e)
      exact ⟨w, by simpa using h1, h2⟩
  | [], _ :: _, _, _, h, _ => h.elim
  | _ :: _, [], _, _, h, _ => h.elim
theorem TxA.get : ∀ {vs : List V} {rs : List RV} {i : Nat} {d : D} {a : Addr}, TxA H vs rs → rs[i]? = some (RV.fr d) → vs[i]? = some (V.ref a) → H a = none
  | [], rs, i, d, a, _, _, e => by simp at e
  | v :: vs, [], i, d, a, _, e, _ => by simp at e
  | v :: vs, r :: rs, i, d, a, h, e1, e2 => by
    obtain ⟨h1, h2⟩ := h
    cases i with
    | zero =>
      simp at e1 e2
      obtain ⟨b, eb, hb, _⟩ := h1 d e1
      rw [eb] at e2; cases e2; exact hb
    | succ i => exact TxA.get (i := i) (d := d) h2 (by simpa using e1) (by simpa using e2)
end
end DL
set_option Elab.async false
set_option linter.all false
set_option maxRecDepth 100000
set_option maxHeartbeats 2000000
namespace DL
open PySem PySem.Spec PyProof.Rows L2
section
variable {P : Pk} {T T' : Addr → Prop} {σ : SS} {ρ ρ' : En} {H H' : Hp}
theorem datA_rel {r : RV} (h : rel ρ r = some ρ') : ∀ rs : List RV, datA ρ' rs = datA ρ rs
  | [] => rfl
  | q :: rs => by unfold datA; rw [rel_dat h q, datA_rel h rs]
theorem relA_spec : ∀ {vs : List V} {rs : List RV} {ds : List D} {ρ : En}, Sim P T' σ ρ H → ValA P T' σ ρ H vs rs → (∀ b, T b → T' b) → (∀ (i : Nat) (d : D) (a : Addr), rs[i]? = some (RV.fr d) → vs[i]? = some (V.ref a) → ¬ T a) →
    datA ρ rs = some ds → relA ρ rs = some ρ' → Sim P T' σ ρ' H ∧ Stp σ ρ H σ ρ' H ∧ Kp ρ ρ' ∧ RepA (Av P T σ ρ') H vs ds
  | [], [], ds, ρ, S, _, _, _, hd, hr => by cases hd; cases hr; exact ⟨S, .refl, .refl, .nil⟩
  | [], _ :: _, _, _, _, h, _, _, _, _ => h.elim
  | _ :: _, [], _, _, _, h, _, _, _, _ => h.elim
  | v :: vs, r :: rs, ds, ρ, S, h, h0, hf, hd, hr => by
    unfold datA at hd
    cases e1 : dat ρ r with
    | none => rw [e1] at hd; cases hd
    | some d =>
      cases e2 : datA ρ rs with
      | none => rw [e1, e2] at hd; cases hd
      | some es =>
        rw [e1, e2] at hd
        cases hd
        unfold relA at hr
        cases e3 : rel ρ r with
        | none => rw [e3] at hr; cases hr
        | some ρ1 =>
          rw [e3] at hr
          have hr : relA ρ1 rs = some ρ' := hr
          obtain ⟨st1, kp1⟩ := rel_stp (σ := σ) (H := H) e3
          have S1 := S.rel e3
          have r1 : Rep (Av P T σ ρ1) H v d := h.1.toSh S e3 e1 h0 fun d a e4 e5 => hf 0 d a (by simp [e4]) (by simp [e5])
          have h2 : ValA P T' σ ρ1 H vs rs := h.2.step S st1 kp1 .refl
          obtain ⟨S2, st2, kp2, r2⟩ := relA_spec S1 h2 h0 (fun i d a q1 q2 => hf (i + 1) d a (by simpa using q1) (by simpa using q2)) (by rw [datA_rel e3]; exact e2) hr
          exact ⟨S2, st1.trans st2, kp1.trans kp2, .cons (r1.mono (av_step st2 .refl)) r2⟩
/-- peeked at, several -/
inductive TopA (S : Addr → Prop) (H : Hp) : List V → List D → Prop
  | nil : TopA S H [] []
  | cons {v : V} {vs : List V} {d : D} {ds : List D} : Top S H v d → TopA S H vs ds → TopA S H (v :: vs) (d :: ds)
theorem ValA.top : ∀ {vs : List V} {rs : List RV} {ds : List D}, ValA P T σ ρ H vs rs → Sim P T σ ρ H → datA ρ rs = some ds → TopA (Av P T σ ρ) H vs ds
  | [], [], _, _, _, h => by cases h; exact .nil
  | [], _ :: _, _, h, _, _ => h.elim
  | _ :: _, [], _, h, _, _ => h.elim
  | v :: vs, r :: rs, ds, h, S, hd => by
    unfold datA at hd
    cases e1 : dat ρ r with
    | none => rw [e1] at hd; cases hd
    | some d =>
      cases e2 : datA ρ rs with
      | none => rw [e1, e2] at hd; cases hd
      | some es =>
        rw [e1, e2] at hd
        cases hd
        exact .cons (h.1.top S e1) (ValA.top h.2 S e2)
end
def fvar (i : Nat) : Fe := fun ρ => match ρ[i]? with
  | some (some (.sh, d)) => some (.sh d, ρ)
  | some (some (_, _)) => some (.al i, ρ)
  | _ => none
def fc (d : D) : Fe := fun ρ => some (.sh d, ρ)
section
variable {X : Cx}
theorem aft_sh {P : Pk} {T T' : Addr → Prop} {σ : SS} {ρ ρ' : En} {H H' : Hp} {v : V} {d : D} (S : Sim P T' σ ρ' H') (st : Stp σ ρ H σ ρ' H') (kp : Kp ρ ρ') (tg : Tg T H T') (r : Rep (Av P T' σ ρ') H' v d) : Aft P T σ ρ H (.sh d) ρ' v H' T :=
  ⟨S.less tg.1, st, kp, rfl, r.mono fun a o ⟨h1, h2, h3⟩ e => ⟨⟨h1, h2, fun q => h3 (tg.1 a q)⟩, e⟩⟩
theorem de_var' {e : Expr} {i : Nat} (h : PE X e (tVar i)) : DE X e (fvar i) := by
  intro P T σ ρ H r ρ' S hf Q q
  refine PE.we h ?_
  unfold fvar at hf
  cases e1 : ρ[i]? with
  | none => rw [e1] at hf; cases hf
  | some x =>
    cases x with
    | none => rw [e1] at hf; cases hf
    | some y =>
      obtain ⟨fl, d⟩ := y
      by_cases hfl : fl = .sh
      · subst hfl
        rw [e1] at hf
        cases hf
        obtain ⟨v, e2, r2⟩ := S.sh i d e1
        exact ⟨v, e2, q v H T (aft_sh S .refl .refl .refl r2)⟩
      · obtain ⟨a, o, q2, q3, q4⟩ := S.ow i fl d e1 hfl
        have hf' : some (RV.al i, ρ) = some (r, ρ') := by
          rw [e1] at hf
          cases fl with
          | sh => exact absurd rfl hfl
          | ow => exact hf
          | bx => exact hf
        cases hf'
        exact ⟨.ref a, q2, q _ H T ⟨S, .refl, .refl, rfl, q2, _, e1⟩⟩
theorem de_var (i : Nat) {x : Str} {pos : Pos} (hN : X.N[i]? = some x := by rfl) (hv : Vis X.env.scope x := by first | exact Or.inl rfl | exact Or.inr (Or.inl rfl) | exact Or.inr (Or.inr rfl)) (hd : (x == ("__debug__" : Str)) = false := by decide)
    (hcd : (x == ("__classdict__" : Str)) = false := by decide) : DE X (.Name x pos) (fvar i) := de_var' (pe_var hN hv hd hcd)
theorem de_c {e : Expr} {v : V} {d : D} (h : PE X e (tC v)) (hr : ∀ S H, Rep S H v d) : DE X e (fc d) := by
  intro P T σ ρ H r ρ' S hf Q q
  cases hf
  exact PE.we h (q v H T (aft_sh S .refl .refl .refl (hr _ _)))
theorem de_int {i j pos} : DE X (.Constant (.int i) j pos) (fc (.int i)) := de_c pe_int fun _ _ => .int i
theorem de_bl {b j pos} : DE X (.Constant (.bool b) j pos) (fc (.bool b)) := de_c pe_bl fun _ _ => .bl b
theorem de_non {j pos} : DE X (.Constant .none j pos) (fc .none) := de_c pe_non fun _ _ => .non
end
inductive OutV where
  /-- a part of the operands, or without objects -/
  | it (d : D)
  /-- a new list, a new tuple -/
  | nl (ds : List D) | nt (ds : List D)
def rvOf : OutV → RV
  | .it d => .sh d
  | .nl ds => .fr (.list ds)
  | .nt ds => .sh (.tuple ds)
def Does (S : Addr → Prop) (H : Hp) (o : OutV) (w : VK → Prop) : Prop := match o with
  | .it d => ∃ v, Rep S H v d ∧ ∀ Q : VK, Q v H → w Q
  | .nl ds => ∃ xs, RepA S H xs ds ∧ ∀ Q : VK, (∀ p, H p = none → Q (.ref p) (upd H p (.lst xs))) → w Q
  | .nt ds => ∃ xs, RepA S H xs ds ∧ ∀ Q : VK, (∀ p, H p = none → Q (.ref p) (upd H p (.tup xs))) → w Q
theorem Does.int {S : Addr → Prop} {H : Hp} {w : VK → Prop} {i : Int} (h : ∀ Q : VK, Q (.int i) H → w Q) : Does S H (.it (.int i)) w := ⟨_, .int i, h⟩
theorem Does.bl {S : Addr → Prop} {H : Hp} {w : VK → Prop} {i : Bool} (h : ∀ Q : VK, Q (.bl i) H → w Q) : Does S H (.it (.bool i)) w := ⟨_, .bl i, h⟩
section
variable {P : Pk} {T T' : Addr → Prop} {σ : SS} {ρ ρ' : En} {H H' : Hp}
theorem does_fin {o : OutV} {w : VK → Prop} {Q : VK} (S : Sim P T' σ ρ' H') (st : Stp σ ρ H σ ρ' H') (kp : Kp ρ ρ') (tg : Tg T H T') (h : Does (Av P T' σ ρ') H' o w) (q : ∀ v H2 T2, Aft P T σ ρ H (rvOf o) ρ' v H2 T2 → Q v H2) : w Q := by
  cases o with
  | it d =>
    obtain ⟨v, r, hw⟩ := h
    exact hw Q (q v H' T (aft_sh S st kp tg r))
  | nl ds =>
    obtain ⟨xs, r, hw⟩ := h
    refine hw Q fun p hp => ?_
    obtain ⟨S2, st2⟩ := S.alloc (o := .lst xs) hp
    have hn : H p = none := by
      cases e : H p with
      | none => rfl
      | some o =>
        obtain ⟨o', e'⟩ := st.dm p o e
        rw [hp] at e'; cases e'
    refine q _ _ (fun b => T b ∨ b = p) ⟨S2.less fun b z => z.elim (fun y => .inl (tg.1 b y)) .inr, st.trans st2, kp, ⟨p, rfl, hn, rfl⟩, p, _, rfl, .inr rfl, upd_same, h0_none S hp, .lst (r.mono fun a u ⟨h1, h2, h3⟩ e => ⟨⟨h1, h2, fun z => z.elim (fun y => h3 (tg.1 a y)) fun y => ne_of_none e hp y⟩, by rw [upd_ne (ne_of_none e hp)]; exact e⟩)⟩
  | nt ds =>
    obtain ⟨xs, r, hw⟩ := h
    refine hw Q fun p hp => ?_
    obtain ⟨S3, st2⟩ := S.allocT (o := .tup xs) hp
    refine q _ _ T (aft_sh S3 (st.trans st2) kp tg (.tup ⟨.inr (h0_none S hp), fun z => ?_, fun z => ?_⟩ upd_same (r.mono fun a u h e => ⟨h, by rw [upd_ne (ne_of_none e hp)]; exact e⟩)))
    · obtain ⟨o, e⟩ := own_dom S z
      rw [hp] at e; cases e
    · obtain ⟨⟨o, e⟩, _⟩ := S.tn p z
      rw [hp] at e; cases e
end
def fop2 (g : D → D → Option OutV) (fa fb : Fe) : Fe := fun ρ => (fa ρ).bind fun x => (fb x.2).bind fun y => (dat y.2 x.1).bind fun da => (dat y.2 y.1).bind fun db => (g da db).map fun o => (rvOf o, y.2)
def Op2 (r : R2) (g : D → D → Option OutV) : Prop := ∀ S H x y dx dy o, Top S H x dx → Top S H y dy → g dx dy = some o → Does S H o (r x y H)
def fop1 (g : D → Option OutV) (fa : Fe) : Fe := fun ρ => (fa ρ).bind fun x => (dat x.2 x.1).bind fun da => (g da).map fun o => (rvOf o, x.2)
def Op1 (r : V → Hp → VK → Prop) (g : D → Option OutV) : Prop := ∀ S H x dx o, Top S H x dx → g dx = some o → Does S H o (r x H)
def fopA (g : List D → Option OutV) (fs : Fa) : Fe := fun ρ => (fs ρ).bind fun x => (datA x.2 x.1).bind fun ds => (g ds).map fun o => (rvOf o, x.2)
def OpA (r : List V → Hp → VK → Prop) (g : List D → Option OutV) : Prop := ∀ S H xs ds o, TopA S H xs ds → g ds = some o → Does S H o (r xs H)
def fbool (f : Fe) : Ft := fun ρ => (f ρ).bind fun x => match x.1 with
  | .sh (.bool b) => some (b, x.2)
  | _ => none
section
variable {X : Cx} {a b : Expr} {es : List Expr} {fa fb : Fe} {fs : Fa} {pos : Pos}
theorem op2_core {r : R2} {g : D → D → Option OutV} (ha : DE X a fa) (hb : DE X b fb) (hg : Op2 r g) {P T σ ρ H rv ρ'} (S : Sim P T σ ρ H) (hf : fop2 g fa fb ρ = some (rv, ρ')) {Q : VK}
    (q : ∀ v H' T', Aft P T σ ρ H rv ρ' v H' T' → Q v H') : tOp r (WE X a) (WE X b) σ H Q := by
  simp only [fop2, Option.bind_eq_some_iff, Option.map_eq_some_iff] at hf
  obtain ⟨⟨ra, ρ1⟩, h1, ⟨rb, ρ2⟩, h2, da, h3, db, h4, o, h5, h6⟩ := hf
  cases h6
  refine ha P T σ ρ H ra ρ1 S h1 _ fun v H1 T1 A1 => hb P T1 σ ρ1 H1 rb ρ2 A1.sim h2 _ fun w H2 T2 A2 => ?_
  have V1 := A1.val.step A1.sim A2.stp A2.kp A2.tx.tg
  exact does_fin A2.sim (A1.stp.trans A2.stp) (A1.kp.trans A2.kp) (A1.tx.tg.trans A2.tx.tg A1.stp.dm) (hg _ _ v w da db o (V1.top A2.sim h3) (A2.val.top A2.sim h4) h5) q
theorem op1_core {r : V → Hp → VK → Prop} {g : D → Option OutV} (ha : DE X a fa) (hg : Op1 r g) {P T σ ρ H rv ρ'} (S : Sim P T σ ρ H) (hf : fop1 g fa ρ = some (rv, ρ')) {Q : VK}
    (q : ∀ v H' T', Aft P T σ ρ H rv ρ' v H' T' → Q v H') : WE X a σ H fun x H1 => r x H1 Q := by
  simp only [fop1, Option.bind_eq_some_iff, Option.map_eq_some_iff] at hf
  obtain ⟨⟨ra, ρ1⟩, h1, da, h3, o, h5, h6⟩ := hf
  cases h6
  refine ha P T σ ρ H ra ρ1 S h1 _ fun v H1 T1 A1 => ?_
  exact does_fin A1.sim A1.stp A1.kp A1.tx.tg (hg _ _ v da o (A1.val.top A1.sim h3) h5) q
theorem opA_core {r : List V → Hp → VK → Prop} {g : List D → Option OutV} (ha : DA X es fs) (hg : OpA r g) {P T σ ρ H rv ρ'} (S : Sim P T σ ρ H) (hf : fopA g fs ρ = some (rv, ρ')) {Q : VK}
    (q : ∀ v H' T', Aft P T σ ρ H rv ρ' v H' T' → Q v H') : WA X es σ H fun xs H1 => r xs H1 Q := by
  simp only [fopA, Option.bind_eq_some_iff, Option.map_eq_some_iff] at hf
  obtain ⟨⟨rs, ρ1⟩, h1, ds, h3, o, h5, h6⟩ := hf
  cases h6
  refine ha P T σ ρ H rs ρ1 S h1 _ fun vs H1 T1 _ A1 => ?_
  exact does_fin A1.sim A1.stp A1.kp A1.tg (hg _ _ vs ds o (A1.val.top A1.sim h3) h5) q
theorem de_bin {op : Operator} {r : R2} {g : D → D → Option OutV} (ho : OpR X (binaryOp op) r) (hg : Op2 r g) (ha : DE X a fa) (hb : DE X b fb) : DE X (.BinOp a op b pos) (fop2 g fa fb) :=
  fun P T σ ρ H rv ρ' S hf Q q => PE.we (pe_op ho peW peW) (op2_core ha hb hg S hf q)
theorem de_un {op : UnaryOp} {r : V → Hp → VK → Prop} {g : D → Option OutV} (ho : UnR X (unaryOp op) r) (hg : Op1 r g) (ha : DE X a fa) : DE X (.UnaryOp op a pos) (fop1 g fa) :=
  fun P T σ ρ H rv ρ' S hf Q q => PE.we (pe_un ho peW) (op1_core ha hg S hf q)
theorem de_cmp {op : CmpOp} {r : R2} {g : D → D → Option OutV} (ho : OpR X (compareOp op) r) (hg : Op2 r g) (ha : DE X a fa) (hb : DE X b fb) (hm : behindInMarks op b = false) : DE X (.Compare a [op] [b] pos) (fop2 g fa fb) :=
  fun P T σ ρ H rv ρ' S hf Q q => PE.we (pe_cmpR ho peW peW hm) (op2_core ha hb hg S hf q)
theorem bool_aft {f : Fe} {c : Bool} {ρ ρ' : En} (hf : fbool f ρ = some (c, ρ')) : f ρ = some (.sh (.bool c), ρ') := by
  simp only [fbool, Option.bind_eq_some_iff] at hf
  obtain ⟨⟨r, ρ1⟩, h1, h2⟩ := hf
  cases r with
  | sh d =>
    cases d with
    | bool b => cases h2; exact h1
    | _ => cases h2
  | fr d => cases h2
  | al i => cases h2
theorem Aft.bool {P T σ ρ H v H' T'} {c : Bool} {ρ' : En} (A : Aft P T σ ρ H (.sh (.bool c)) ρ' v H' T') : v = .bl c ∧ Sim P T σ ρ' H' := by
  obtain ⟨S, st, kp, tx, vl⟩ := A
  have e : T' = T := tx
  subst e
  cases (show Rep _ _ _ _ from vl)
  exact ⟨rfl, S⟩
theorem dt_cmp {op : CmpOp} {r : R2} {g : D → D → Option OutV} (ho : OpR X (compareOp op) r) (hg : Op2 r g) (ha : DE X a fa) (hb : DE X b fb) (hm : behindInMarks op b = false) : DT X (.Compare a [op] [b] pos) (fbool (fop2 g fa fb)) := by
  intro P T σ ρ H c ρ' S hf Q q
  have hf' := bool_aft hf
  refine PT.wt (pt_cmpR ho peW peW hm) (op2_core ha hb hg S hf' fun v H' T' A => ?_)
  obtain ⟨e, S'⟩ := A.bool
  exact ⟨c, e, q H' S' A.stp A.kp⟩
/-- any other expression whose value is a bool, as a test -/
theorem dt_val {e : Expr} {f : Fe} (h : DE X e f) (he : ∀ whole, isTrue e X.env whole = (do let v ← whole; standAt e.pos; holding [v] (truthy v)) := by intro _; rfl) : DT X e (fbool f) := by
  intro P T σ ρ H c ρ' S hf Q q
  have hf' := bool_aft hf
  refine PT.wt (pt_val peW he) (h P T σ ρ H _ ρ' S hf' _ fun v H' T' A => ?_)
  obtain ⟨e, S'⟩ := A.bool
  exact ⟨c, e, q H' S' A.stp A.kp⟩
/-- index, slice -/
theorem de_ix {r : R2} {g : D → D → Option OutV} (hr : IxR X r) (hg : Op2 r g) (ha : DE X a fa) (hb : DE X b fb) (hs : PlainIx b := by intro _ _; rfl) : DE X (.Subscript a b pos) (fop2 g fa fb) :=
  fun P T σ ρ H rv ρ' S hf Q q => PE.we (pe_ix hr peW peW hs) (op2_core ha hb hg S hf q)
/-- f(..) of a built-in -/
theorem de_callB {x : Str} {id : String} {e : Expr} {p : Pos} {r : List V → Hp → VK → Prop} {g : List D → Option OutV} (hc : CallR X (.builtin id) r) (hg : OpA r g) (hgl : Gl X x) (hm : X.mg x = none) (hv : bootBuiltins x = some (.builtin id)) (ha : DA X (e :: es) fs) (hn : x ≠ "__name__" := by decide) (hdb : (x == ("__debug__" : Str)) = false := by decide)
    (he : starEach (e :: es) X.env = (false, eval e X.env) :: starEach es X.env := by rfl) (hpl : (backTo pos (starEach es X.env)).any (·.1) = false := by rfl) : DE X (.Call (.Name x p) (e :: es) [] pos) (fopA g fs) :=
  fun P T σ ρ H rv ρ' S hf Q q => PE.we (pe_callB hc hgl hm hv paW hn hdb he hpl) (opA_core ha hg S hf q)
theorem de_callTy {x : Str} {Ty : String} {e : Expr} {p : Pos} {r : List V → Hp → VK → Prop} {g : List D → Option OutV} (hc : CallR X (.type Ty) r) (hg : OpA r g) (hgl : Gl X x) (hm : X.mg x = none) (hv : bootBuiltins x = some (.type Ty)) (ha : DA X (e :: es) fs) (hn : x ≠ "__name__" := by decide) (hdb : (x == ("__debug__" : Str)) = false := by decide)
    (he : starEach (e :: es) X.env = (false, eval e X.env) :: starEach es X.env := by rfl) (hpl : (backTo pos (starEach es X.env)).any (·.1) = false := by rfl) : DE X (.Call (.Name x p) (e :: es) [] pos) (fopA g fs) :=
  fun P T σ ρ H rv ρ' S hf Q q => PE.we (pe_callTy hc hgl hm hv paW hn hdb he hpl) (opA_core ha hg S hf q)
end
def fnil : Fa := fun ρ => some ([], ρ)
def fcons (f : Fe) (fs : Fa) : Fa := fun ρ => (f ρ).bind fun x => (fs x.2).bind fun y => some (x.1 :: y.1, y.2)
def ftup (fs : Fa) : Fe := fun ρ => (fs ρ).bind fun x => (datA x.2 x.1).bind fun ds => (relA x.2 x.1).map fun ρ2 => (.sh (.tuple ds), ρ2)
def flst (fs : Fa) : Fe := fun ρ => (fs ρ).bind fun x => (datA x.2 x.1).bind fun ds => (relA x.2 x.1).map fun ρ2 => (.fr (.list ds), ρ2)
section
variable {X : Cx} {e : Expr} {es : List Expr} {f : Fe} {fs : Fa} {pos : Pos}
theorem da_nil : DA X [] fnil := by
  intro P T σ ρ H rs ρ' S hf Q q
  cases hf
  exact PA.wa pa_nil (q [] H T rfl ⟨S, .refl, .refl, .refl, trivial, trivial⟩)
theorem TxA.mono {H H' : Hp} (h : ∀ b o, H b = some o → ∃ o', H' b = some o') : ∀ {vs : List V} {rs : List RV}, TxA H' vs rs → TxA H vs rs
  | [], _, _ => by unfold TxA; trivial
  | _ :: _, [], _ => by unfold TxA; trivial
  | v :: vs, r :: rs, ⟨h1, h2⟩ => by
      refine ⟨fun d e => ?_, TxA.mono h h2⟩
      obtain ⟨a, e1, e2, e3⟩ := h1 d e
      refine ⟨a, e1, ?_, e3⟩
      cases q : H a with
      | none => rfl
      | some o =>
        obtain ⟨o', q'⟩ := h a o q
        rw [e2] at q'; cases q'
theorem da_cons (h1 : DE X e f) (h2 : DA X es fs) (hs : starEach (e :: es) X.env = (false, eval e X.env) :: starEach es X.env := by rfl) : DA X (e :: es) (fcons f fs) := by
  intro P T σ ρ H rs ρ' S hf Q q
  simp only [fcons, Option.bind_eq_some_iff] at hf
  obtain ⟨⟨r, ρ1⟩, e1, ⟨rs', ρ2⟩, e2, e3⟩ := hf
  cases e3
  refine PA.wa (pa_cons peW paW hs) ?_
  refine h1 P T σ ρ H r ρ1 S e1 _ fun v H1 T1 A1 => h2 P T1 σ ρ1 H1 rs' ρ2 A1.sim e2 _ fun vs H2 T2 hl A2 => ?_
  refine q (v :: vs) H2 T2 (by simp [hl]) ⟨A2.sim, A1.stp.trans A2.stp, A1.kp.trans A2.kp, A1.tx.tg.trans A2.tg A1.stp.dm, ⟨fun d e => ?_, TxA.mono A1.stp.dm A2.tx⟩, A1.val.step A1.sim A2.stp A2.kp A2.tg, A2.val⟩
  subst e
  obtain ⟨a, ea, hn, hT⟩ := A1.tx
  refine ⟨a, ea, hn, fun i d' e4 e5 => ?_⟩
  have z := TxA.get A2.tx e4 e5
  obtain ⟨⟨o, e6⟩, _⟩ := A1.sim.tn a (by rw [hT]; exact .inr rfl)
  rw [z] at e6; cases e6
theorem tx_not {P : Pk} {T T' : Addr → Prop} {σ : SS} {ρ ρ' : En} {H H' : Hp} {vs : List V} {rs : List RV} (A : AftA P T σ ρ H rs ρ' vs H' T') (S : Sim P T σ ρ H) : ∀ (i : Nat) (d : D) (a : Addr), rs[i]? = some (RV.fr d) → vs[i]? = some (V.ref a) → ¬ T a := fun i d a e1 e2 q => by
  have z := TxA.get A.tx e1 e2
  obtain ⟨⟨o, e⟩, _⟩ := S.tn a q
  rw [z] at e; cases e
theorem small_of {n : Nat} (h : n ≤ 1000) : n ≤ sizeLine := Nat.le_of_lt (small1000 h)
theorem de_tup {x1} (h : DA X es fs) (hl : es.length ≤ 1000 := by decide) : DE X (.Tuple es x1 pos) (ftup fs) := by
  intro P T σ ρ H r ρ' S hf Q q
  simp only [ftup, Option.bind_eq_some_iff, Option.map_eq_some_iff] at hf
  obtain ⟨⟨rs, ρ1⟩, h1, ds, h2, ρ2, h3, h4⟩ := hf
  cases h4
  refine PE.we (pe_tup paW) (h P T σ ρ H rs ρ1 S h1 _ fun vs H1 T1 hlen A => ?_)
  obtain ⟨S2, st2, kp2, r2⟩ := relA_spec A.sim A.val A.tg.1 (tx_not A S) h2 h3
  have S3 := S2.less A.tg.1
  refine ⟨small_of (by omega), fun p hp => ?_⟩
  exact does_fin (o := .nt ds) (w := fun Q => ∀ p, H1 p = none → Q (.ref p) (upd H1 p (.tup vs))) S3 (A.stp.trans st2) (A.kp.trans kp2) .refl ⟨vs, r2, fun Q hq => hq⟩ q p hp
theorem de_lst (h : DA X es fs) (hl : es.length ≤ 1000 := by decide) : DE X (.List es pos) (flst fs) := by
  intro P T σ ρ H r ρ' S hf Q q
  simp only [flst, Option.bind_eq_some_iff, Option.map_eq_some_iff] at hf
  obtain ⟨⟨rs, ρ1⟩, h1, ds, h2, ρ2, h3, h4⟩ := hf
  cases h4
  refine PE.we (pe_lst paW) (h P T σ ρ H rs ρ1 S h1 _ fun vs H1 T1 hlen A => ?_)
  obtain ⟨S2, st2, kp2, r2⟩ := relA_spec A.sim A.val A.tg.1 (tx_not A S) h2 h3
  have S3 := S2.less A.tg.1
  refine ⟨small_of (by omega), fun p hp => ?_⟩
  exact does_fin (o := .nl ds) (w := fun Q => ∀ p, H1 p = none → Q (.ref p) (upd H1 p (.lst vs))) S3 (A.stp.trans st2) (A.kp.trans kp2) .refl ⟨vs, r2, fun Q hq => hq⟩ q p hp
end
end DL
set_option Elab.async false
set_option linter.all false
set_option maxRecDepth 100000
set_option maxHeartbeats 2000000
namespace DL
open PySem PySem.Spec PyProof.Rows L2
section
variable {P : Pk} {T T2 : Addr → Prop} {σ : SS} {ρ ρ' : En} {H H' : Hp}
theorem Sim.grow (S : Sim P T σ ρ H) (tg : Tg T H T2) (up : ∀ b o, H b = some o → H' b = some o) (h2 : ∀ b, T2 b → ∃ o, H' b = some o) (h4 : ∀ b, T2 b → T b ∨ ∀ xs, H' b ≠ some (.tup xs) := by exact fun _ h => .inl h) : Sim P T2 σ ρ H' ∧ Stp σ ρ H σ ρ H' := by
  have st : Stp σ ρ H σ ρ H' := ⟨fun b o e _ => up b o e, fun b q => .inl q, fun b o e => ⟨o, up b o e⟩⟩
  have av := av_step (P := P) st tg
  refine ⟨⟨S.len, fun i d e => ?_, fun i fl d e n => ?_, S.dj, S.new, S.bx, fun b q => ⟨h2 b q, fun z => ?_⟩, fun b o e n => up b o (S.keep b o e n), fun b o e => ?_, S.sB, fun b xs e => ?_⟩, st⟩
  · obtain ⟨v, q1, q2⟩ := S.sh i d e
    exact ⟨v, q1, q2.mono av⟩
  · obtain ⟨a, o, q2, q3, q4⟩ := S.ow i fl d e n
    exact ⟨a, o, q2, up _ _ q3, q4.mono av⟩
  · rcases tg.2 b q with q | q
    · exact (S.tn b q).2 z
    · obtain ⟨o, e⟩ := own_dom S z
      rw [q] at e; cases e
  · obtain ⟨o', e'⟩ := S.dom b o e
    exact ⟨o', up b o' e'⟩
  · cases e1 : H b with
    | none =>
      refine ⟨.inr (h0_none S e1), fun q => ?_⟩
      rcases h4 b q with q | q
      · obtain ⟨⟨u, e2⟩, _⟩ := S.tn b q
        rw [e1] at e2; cases e2
      · exact q xs e
    | some o =>
      have e2 := up b o e1
      rw [e] at e2; cases e2
      refine ⟨(S.tp b xs e1).1, fun q => ?_⟩
      rcases h4 b q with q | q
      · exact (S.tp b xs e1).2 q
      · exact q xs e
theorem get_set {i j : Nat} {x : Option (Fl × D)} {y : Option (Fl × D)} (h : (ρ.set i y)[j]? = some x) : (j = i ∧ x = y) ∨ (j ≠ i ∧ ρ[j]? = some x) := by
  by_cases hj : j = i
  · subst hj
    left
    rw [List.getElem?_set] at h
    simp only [if_true] at h
    split at h
    · cases h; exact ⟨rfl, rfl⟩
    · cases h
  · right
    rw [List.getElem?_set_ne (Ne.symm hj)] at h
    exact ⟨hj, h⟩
theorem kp_set {i : Nat} {y : Fl × D} : Kp ρ (ρ.set i (some y)) := fun j x q => by
  by_cases hj : i = j
  · subst hj
    exact ⟨_, List.getElem?_set_self (List.getElem?_eq_some_iff.mp q).1⟩
  · exact ⟨x, by rw [List.getElem?_set_ne hj]; exact q⟩
/-- the list of an owned slot is changed -/
theorem Sim.mut {j : Nat} {fl : Fl} {d : D} {a : Addr} {xs : List V} {es : List D} (S : Sim P T σ ρ H) (e : ρ[j]? = some (some (fl, d))) (n : fl ≠ .sh) (ea : σ[j]? = some (some (V.ref a))) (kp : ∀ b o, b ≠ a → H b = some o → H' b = some o) (ha : H' a = some (.lst xs))
    (r : RepA (Av P T σ ρ) H' xs es) : Sim P T σ (ρ.set j (some (fl, .list es))) H' ∧ Stp σ ρ H σ (ρ.set j (some (fl, .list es))) H' := by
  have hl : j < ρ.length := (List.getElem?_eq_some_iff.mp e).1
  have ownA : Own σ ρ a := ⟨j, fl, d, e, n, ea⟩
  have ow : ∀ b, Own σ (ρ.set j (some (fl, .list es))) b → Own σ ρ b := fun b ⟨i, fl', d', h1, h2, h3⟩ => by
    rcases get_set h1 with ⟨rfl, q⟩ | ⟨_, q⟩
    · exact ⟨i, fl, d, e, n, h3⟩
    · exact ⟨i, fl', d', q, h2, h3⟩
  have ow' : ∀ b, Own σ ρ b → Own σ (ρ.set j (some (fl, .list es))) b := fun b ⟨i, fl', d', h1, h2, h3⟩ => by
    by_cases hi : j = i
    · subst hi
      exact ⟨j, fl, _, List.getElem?_set_self hl, n, h3⟩
    · exact ⟨i, fl', d', by rw [List.getElem?_set_ne hi]; exact h1, h2, h3⟩
  have st : Stp σ ρ H σ (ρ.set j (some (fl, .list es))) H' := by
    refine ⟨fun b o q nb => kp b o (fun z => nb (by rw [z]; exact ownA)) q, fun b q => .inl (ow b q), fun b o q => ?_⟩
    by_cases hb : b = a
    · subst hb; exact ⟨_, ha⟩
    · exact ⟨o, kp b o hb q⟩
  have av := av_step (P := P) st (Tg.refl (T := T) (H := H))
  have av' : ∀ b o, Av P T σ ρ b → H' b = some o → Av P T σ (ρ.set j (some (fl, .list es))) b ∧ H' b = some o := fun b o ⟨h1, h2, h3⟩ q => ⟨⟨h1, fun z => h2 (ow b z), h3⟩, q⟩
  refine ⟨⟨by rw [List.length_set]; exact S.len, fun i d' h => ?_, fun i fl' d' h n' => ?_, fun i k f1 f2 d1 d2 b h1 h2 h3 h4 h5 h6 => ?_, fun i d' b h h3 => ?_, fun i d' h => ?_, fun b q => ⟨?_, fun z => (S.tn b q).2 (ow b z)⟩, fun b o q nb => ?_, fun b o q => ?_, S.sB, fun b zs q => ?_⟩, st⟩
  · rcases get_set h with ⟨rfl, q⟩ | ⟨_, q⟩
    · cases q; exact absurd rfl n
    · obtain ⟨v, q1, q2⟩ := S.sh i d' q
      exact ⟨v, q1, q2.mono av⟩
  · rcases get_set h with ⟨rfl, q⟩ | ⟨hi, q⟩
    · cases q
      exact ⟨a, _, ea, ha, .lst (r.mono av')⟩
    · obtain ⟨b, o, q2, q3, q4⟩ := S.ow i fl' d' q n'
      refine ⟨b, o, q2, kp b _ (fun z => ?_) q3, q4.mono av⟩
      subst z
      exact hi (S.dj i j fl' fl d' d b q n' e n q2 ea)
  · have g : ∀ {i : Nat} {f1 : Fl} {d1 : D}, (ρ.set j (some (fl, .list es)))[i]? = some (some (f1, d1)) → f1 ≠ .sh → ∃ f d, ρ[i]? = some (some (f, d)) ∧ f ≠ Fl.sh := fun {i f1 d1} h h' => by
      rcases get_set h with ⟨rfl, q⟩ | ⟨_, q⟩
      · exact ⟨fl, d, e, n⟩
      · exact ⟨f1, d1, q, h'⟩
    obtain ⟨g1, c1, k1, m1⟩ := g h1 h2
    obtain ⟨g2, c2, k2, m2⟩ := g h3 h4
    exact S.dj i k g1 g2 c1 c2 b k1 m1 k2 m2 h5 h6
  · rcases get_set h with ⟨rfl, q⟩ | ⟨_, q⟩
    · cases q; exact S.new i d b e h3
    · exact S.new i d' b q h3
  · rcases get_set h with ⟨rfl, q⟩ | ⟨_, q⟩
    · cases q; exact S.bx i d e
    · exact S.bx i d' q
  · obtain ⟨o, q1⟩ := (S.tn b q).1
    exact st.dm b o q1
  · by_cases hb : b = a
    · subst hb
      cases fl with
      | sh => exact absurd rfl n
      | ow => rw [S.new j d b e ea] at q; cases q
      | bx => exact absurd ((S.bx j d e).2 b ea) nb
    · exact kp b o hb (S.keep b o q nb)
  · obtain ⟨o', q'⟩ := S.dom b o q
    exact st.dm b o' q'
  · by_cases hb : b = a
    · subst hb
      rw [ha] at q
      cases q
    · cases e1 : H b with
      | none =>
        refine ⟨.inr (h0_none S e1), fun z => ?_⟩
        obtain ⟨⟨u, e2⟩, _⟩ := S.tn b z
        rw [e1] at e2; cases e2
      | some o =>
        have e2 := kp b o hb e1
        rw [q] at e2; cases e2
        exact S.tp b zs e1
end
def fnotT (f : Ft) : Ft := fun ρ => (f ρ).map fun x => (!x.1, x.2)
def fandT (f g : Ft) : Ft := fun ρ => (f ρ).bind fun x => if x.1 then g x.2 else some (false, x.2)
def forT (f g : Ft) : Ft := fun ρ => (f ρ).bind fun x => if x.1 then some (true, x.2) else g x.2
def fif (f : Ft) (fa fb : Fe) : Fe := fun ρ => (f ρ).bind fun x => if x.1 then fa x.2 else fb x.2
def fnot (f : Fe) : Fe := fun ρ => (fbool f ρ).map fun x => (.sh (.bool (!x.1)), x.2)
def fand (fa fb : Fe) : Fe := fun ρ => (fbool fa ρ).bind fun x => if x.1 then fb x.2 else some (.sh (.bool false), x.2)
def for' (fa fb : Fe) : Fe := fun ρ => (fbool fa ρ).bind fun x => if x.1 then some (.sh (.bool true), x.2) else fb x.2
section
variable {X : Cx} {a b c : Expr} {es rest : List Expr} {fa fb fc : Fe} {f g : Ft} {fs : Fa} {pos : Pos}
theorem dt_not (h : DT X a f) : DT X (.UnaryOp .Not a pos) (fnotT f) := by
  intro P T σ ρ H c ρ' S hf Q q
  simp only [fnotT, Option.map_eq_some_iff] at hf
  obtain ⟨⟨c1, ρ1⟩, h1, h2⟩ := hf
  cases h2
  exact PT.wt (pt_not ptW) (h P T σ ρ H c1 _ S h1 _ q)
theorem dw_and1 (h : DT X a f) : DW X (.BoolOp .And [a] pos) f := by
  intro P T σ ρ H c ρ' S hf Q q
  exact PW.ww (pw_and1 ptW) (h P T σ ρ H c ρ' S hf _ q)
theorem dw_or1 (h : DT X a f) : DW X (.BoolOp .Or [a] pos) f := by
  intro P T σ ρ H c ρ' S hf Q q
  exact PW.ww (pw_or1 ptW) (h P T σ ρ H c ρ' S hf _ q)
theorem dw_and (h : DT X a f) (h2 : DW X (.BoolOp .And (b :: rest) pos) g) : DW X (.BoolOp .And (a :: b :: rest) pos) (fandT f g) := by
  intro P T σ ρ H c ρ' S hf Q q
  simp only [fandT, Option.bind_eq_some_iff] at hf
  obtain ⟨⟨c1, ρ1⟩, e1, e2⟩ := hf
  refine PW.ww (pw_and ptW pwW) (h P T σ ρ H c1 ρ1 S e1 _ fun H1 S1 st1 kp1 => ?_)
  cases c1 with
  | true => exact h2 P T σ ρ1 H1 c ρ' S1 e2 _ fun H2 S2 st2 kp2 => q H2 S2 (st1.trans st2) (kp1.trans kp2)
  | false => cases e2; exact q H1 S1 st1 kp1
theorem dw_or (h : DT X a f) (h2 : DW X (.BoolOp .Or (b :: rest) pos) g) : DW X (.BoolOp .Or (a :: b :: rest) pos) (forT f g) := by
  intro P T σ ρ H c ρ' S hf Q q
  simp only [forT, Option.bind_eq_some_iff] at hf
  obtain ⟨⟨c1, ρ1⟩, e1, e2⟩ := hf
  refine PW.ww (pw_or ptW pwW) (h P T σ ρ H c1 ρ1 S e1 _ fun H1 S1 st1 kp1 => ?_)
  cases c1 with
  | false => exact h2 P T σ ρ1 H1 c ρ' S1 e2 _ fun H2 S2 st2 kp2 => q H2 S2 (st1.trans st2) (kp1.trans kp2)
  | true => cases e2; exact q H1 S1 st1 kp1
theorem tx_back {T T' : Addr → Prop} {H H1 : Hp} {v : V} {r : RV} (dm : ∀ b o, H b = some o → ∃ o', H1 b = some o') (tx : Tx T H1 v T' r) : Tx T H v T' r := by
  cases r with
  | sh d => exact tx
  | al i => exact tx
  | fr d =>
    obtain ⟨p, e, hn, hT⟩ := tx
    refine ⟨p, e, ?_, hT⟩
    cases z : H p with
    | none => rfl
    | some o =>
      obtain ⟨o', e'⟩ := dm p o z
      rw [hn] at e'; cases e'
theorem Aft.back {P T σ ρ ρ1 ρ' H H1 H2 T2 v r} (st1 : Stp σ ρ H σ ρ1 H1) (kp1 : Kp ρ ρ1) (A : Aft P T σ ρ1 H1 r ρ' v H2 T2) : Aft P T σ ρ H r ρ' v H2 T2 :=
  ⟨A.sim, st1.trans A.stp, kp1.trans A.kp, tx_back st1.dm A.tx, A.val⟩
theorem de_if (h : DT X c f) (ha : DE X a fa) (hb : DE X b fb) : DE X (.IfExp c a b pos) (fif f fa fb) := by
  intro P T σ ρ H r ρ' S hf Q q
  simp only [fif, Option.bind_eq_some_iff] at hf
  obtain ⟨⟨c1, ρ1⟩, e1, e2⟩ := hf
  refine PE.we (pe_ifExp ptW peW peW) (h P T σ ρ H c1 ρ1 S e1 _ fun H1 S1 st1 kp1 => ?_)
  cases c1 with
  | true => exact ha P T σ ρ1 H1 r ρ' S1 e2 _ fun v H2 T2 A => q v H2 T2 (A.back st1 kp1)
  | false => exact hb P T σ ρ1 H1 r ρ' S1 e2 _ fun v H2 T2 A => q v H2 T2 (A.back st1 kp1)
theorem Aft.unbool {P T σ ρ ρ' H H' T' v} {c : Bool} (A : Aft P T σ ρ H (.sh (.bool c)) ρ' v H' T') : v = .bl c ∧ Sim P T σ ρ' H' ∧ Stp σ ρ H σ ρ' H' ∧ Kp ρ ρ' := ⟨A.bool.1, A.bool.2, A.stp, A.kp⟩
theorem de_one {op} (h : DE X a fa) : DE X (.BoolOp op [a] pos) fa := fun P T σ ρ H r ρ' S hf Q q => PE.we (pe_one peW) (h P T σ ρ H r ρ' S hf Q q)
theorem de_and (ha : DE X a fa) (hb : DE X (.BoolOp .And (b :: rest) pos) fb) : DE X (.BoolOp .And (a :: b :: rest) pos) (fand fa fb) := by
  intro P T σ ρ H r ρ' S hf Q q
  simp only [fand, Option.bind_eq_some_iff] at hf
  obtain ⟨⟨c1, ρ1⟩, e1, e2⟩ := hf
  refine PE.we (pe_and peW peW) (ha P T σ ρ H _ ρ1 S (bool_aft e1) _ fun v H1 T1 A => ?_)
  obtain ⟨ev, S1, st1, kp1⟩ := A.unbool
  refine ⟨c1, ev, ?_⟩
  cases c1 with
  | true => exact hb P T σ ρ1 H1 r ρ' S1 e2 _ fun v H2 T2 A => q v H2 T2 (A.back st1 kp1)
  | false => cases e2; exact q _ H1 T (aft_sh S1 st1 kp1 .refl (.bl false))
theorem de_or (ha : DE X a fa) (hb : DE X (.BoolOp .Or (b :: rest) pos) fb) : DE X (.BoolOp .Or (a :: b :: rest) pos) (for' fa fb) := by
  intro P T σ ρ H r ρ' S hf Q q
  simp only [for', Option.bind_eq_some_iff] at hf
  obtain ⟨⟨c1, ρ1⟩, e1, e2⟩ := hf
  refine PE.we (pe_or peW peW) (ha P T σ ρ H _ ρ1 S (bool_aft e1) _ fun v H1 T1 A => ?_)
  obtain ⟨ev, S1, st1, kp1⟩ := A.unbool
  refine ⟨c1, ev, ?_⟩
  cases c1 with
  | false => exact hb P T σ ρ1 H1 r ρ' S1 e2 _ fun v H2 T2 A => q v H2 T2 (A.back st1 kp1)
  | true => cases e2; exact q _ H1 T (aft_sh S1 st1 kp1 .refl (.bl true))
/-- a op1 b op2 c -/
def fchain (g g' : D → D → Option OutV) (fa fb fc : Fe) : Fe := fun ρ => (fa ρ).bind fun x => (fb x.2).bind fun y => (dat y.2 x.1).bind fun da => (dat y.2 y.1).bind fun db => (g da db).bind fun o => match o with
  | .it (.bool true) => (fc y.2).bind fun z => (dat z.2 y.1).bind fun db' => (dat z.2 z.1).bind fun dc => (g' db' dc).map fun o => (rvOf o, z.2)
  | .it (.bool false) => some (.sh (.bool false), y.2)
  | _ => none
theorem chain_core {r r' : R2} {g g' : D → D → Option OutV} (ha : DE X a fa) (hb : DE X b fb) (hc : DE X c fc) (hg : Op2 r g) (hg' : Op2 r' g') {P T σ ρ H rv ρ'} (S : Sim P T σ ρ H) (hf : fchain g g' fa fb fc ρ = some (rv, ρ')) {Q : VK}
    (q : ∀ v H' T', Aft P T σ ρ H rv ρ' v H' T' → Q v H') : tChain r r' (WE X a) (WE X b) (WE X c) σ H Q := by
  simp only [fchain, Option.bind_eq_some_iff] at hf
  obtain ⟨⟨ra, ρ1⟩, h1, ⟨rb, ρ2⟩, h2, da, h3, db, h4, o, h5, h6⟩ := hf
  refine ha P T σ ρ H ra ρ1 S h1 _ fun v H1 T1 A1 => hb P T1 σ ρ1 H1 rb ρ2 A1.sim h2 _ fun w H2 T2 A2 => ?_
  have V1 := A1.val.step A1.sim A2.stp A2.kp A2.tx.tg
  have tg2 := A1.tx.tg.trans A2.tx.tg A1.stp.dm
  have dd := hg _ _ v w da db o (V1.top A2.sim h3) (A2.val.top A2.sim h4) h5
  cases o with
  | nl ds => cases h6
  | nt ds => cases h6
  | it d =>
    cases d with
    | bool k =>
      obtain ⟨x, rx, hw⟩ := dd
      cases rx
      refine hw _ ⟨k, rfl, ?_⟩
      cases k with
      | false => cases h6; exact q _ H2 T (aft_sh A2.sim (A1.stp.trans A2.stp) (A1.kp.trans A2.kp) tg2 (.bl false))
      | true =>
        simp only [Option.bind_eq_some_iff, Option.map_eq_some_iff] at h6
        obtain ⟨⟨rc, ρ3⟩, k1, db', k2, dc, k3, o', k4, k5⟩ := h6
        cases k5
        refine hc P T2 σ ρ2 H2 rc _ A2.sim k1 _ fun z H3 T3 A3 => ?_
        have V2 := A2.val.step A2.sim A3.stp A3.kp A3.tx.tg
        exact does_fin A3.sim ((A1.stp.trans A2.stp).trans A3.stp) ((A1.kp.trans A2.kp).trans A3.kp) (tg2.trans A3.tx.tg (A1.stp.trans A2.stp).dm) (hg' _ _ w z db' dc o' (V2.top A3.sim k2) (A3.val.top A3.sim k3) k4) q
    | _ => cases h6
theorem dt_chain {op op' : CmpOp} {r r' : R2} {g g' : D → D → Option OutV} (ho : OpR X (compareOp op) r) (ho' : OpR X (compareOp op') r') (hg : Op2 r g) (hg' : Op2 r' g') (ha : DE X a fa) (hb : DE X b fb) (hc : DE X c fc)
    (hm : lastMarks [op, op'] [b, c] = false := by with_unfolding_all rfl) : DT X (.Compare a [op, op'] [b, c] pos) (fbool (fchain g g' fa fb fc)) := by
  intro P T σ ρ H k ρ' S hf Q q
  refine PT.wt (pt_chain ho ho' peW peW peW hm) (chain_core ha hb hc hg hg' S (bool_aft hf) fun v H' T' A => ?_)
  obtain ⟨e, S', st, kp⟩ := A.unbool
  exact ⟨k, e, q H' S' st kp⟩
end
def fmeth1 (j : Nat) (g : List D → List D → Option (D × List D)) (fs : Fa) : Fe := fun ρ => (fs ρ).bind fun x => (datA x.2 x.1).bind fun ds => (relA x.2 x.1).bind fun ρ2 => match ρ2[j]? with
  | some (some (.sh, _)) => none
  | some (some (fl, .list es)) => (g es ds).map fun y => (.sh y.1, ρ2.set j (some (fl, .list y.2)))
  | _ => none
def fmeth (j : Nat) (g : List D → List D → Option (D × List D)) (fs : Fa) : Fe := fun ρ => match ρ[j]? with
  | some (some (.sh, _)) => none
  | some (some (_, .list _)) => fmeth1 j g fs ρ
  | _ => none
def OpM (r : V → List V → Hp → VK → Prop) (g : List D → List D → Option (D × List D)) : Prop :=
  ∀ S H a xs es vs ds d es', H a = some (.lst xs) → RepA S H xs es → RepA S H vs ds → g es ds = some (d, es') → ∃ v xs', RepA S H xs' es' ∧ Rep S H v d ∧ ∀ Q : VK, Q v (upd H a (.lst xs')) → r (.ref a) vs H Q
section
variable {X : Cx} {e o : Expr} {es : List Expr} {fs : Fa} {pos apos ppos : Pos} {id : String} {r : V → List V → Hp → VK → Prop} {g : List D → List D → Option (D × List D)} {j : Nat}
theorem meth_core {a : Addr} (hg : OpM r g) (ha : ∀ {P T σ ρ H rs ρ'}, Sim P T σ ρ H → fs ρ = some (rs, ρ') → ∀ Q : List V → Hp → Prop, (∀ vs H' T', AftA P T σ ρ H rs ρ' vs H' T' → Q vs H') → WA X es σ H Q)
    {P T σ ρ H rv ρ'} (S : Sim P T σ ρ H) (hf : fmeth1 j g fs ρ = some (rv, ρ')) (hσ : σ[j]? = some (some (V.ref a))) {Q : VK} (q : ∀ v H' T', Aft P T σ ρ H rv ρ' v H' T' → Q v H') : WA X es σ H fun vs H1 => r (.ref a) vs H1 Q := by
  simp only [fmeth1, Option.bind_eq_some_iff] at hf
  obtain ⟨⟨rs, ρ1⟩, h1, ds, h2, ρ2, h3, h4⟩ := hf
  refine ha S h1 _ fun vs H1 T1 A => ?_
  obtain ⟨S2, st2, kp2, r2⟩ := relA_spec A.sim A.val A.tg.1 (tx_not A S) h2 h3
  have S3 := S2.less A.tg.1
  cases e1 : ρ2[j]? with
  | none => simp only [e1] at h4; cases h4
  | some x =>
    cases x with
    | none => simp only [e1] at h4; cases h4
    | some y =>
      obtain ⟨fl, d⟩ := y
      by_cases hfl : fl = .sh
      · subst hfl; simp only [e1] at h4; cases h4
      · obtain ⟨a', o, q2, q3, q4⟩ := S3.ow j fl d e1 hfl
        rw [hσ] at q2; cases q2
        cases q4 with
        | dct => simp only [e1] at h4; cases fl <;> cases h4
        | @lst xs es' q4 =>
        have h4' : (g es' ds).map (fun y => (RV.sh y.1, ρ2.set j (some (fl, PyData.list y.2)))) = some (rv, ρ') := by
          simp only [e1] at h4
          cases fl with
          | sh => exact absurd rfl hfl
          | ow => exact h4
          | bx => exact h4
        simp only [Option.map_eq_some_iff] at h4'
        obtain ⟨⟨dr, es2⟩, k1, k2⟩ := h4'
        cases k2
        obtain ⟨v, xs', r3, r4, hw⟩ := hg _ H1 a xs es' vs ds dr es2 q3 q4 r2 k1
        refine hw Q ?_
        have na : ∀ b, Av P T σ ρ2 b → b ≠ a := fun b hb z => hb.2.1 (by rw [z]; exact ⟨j, fl, _, e1, hfl, hσ⟩)
        have kp : ∀ b u, b ≠ a → H1 b = some u → (upd H1 a (.lst xs')) b = some u := fun b u hb e => by rw [upd_ne hb]; exact e
        have up : ∀ b u, Av P T σ ρ2 b → H1 b = some u → Av P T σ ρ2 b ∧ (upd H1 a (.lst xs')) b = some u := fun b u hb e => ⟨hb, kp b u (na b hb) e⟩
        obtain ⟨S4, st4⟩ := S3.mut e1 hfl hσ kp upd_same (r3.mono up)
        exact q v _ T (aft_sh S4 ((A.stp.trans st2).trans st4) ((A.kp.trans kp2).trans kp_set) .refl (r4.mono (av_step st4 .refl)))
theorem fmeth_in {rv : RV × En} {ρ : En} (hf : fmeth j g fs ρ = some rv) : (∃ fl ds, ρ[j]? = some (some (fl, .list ds)) ∧ fl ≠ Fl.sh) ∧ fmeth1 j g fs ρ = some rv := by
  unfold fmeth at hf
  cases e1 : ρ[j]? with
  | none => rw [e1] at hf; cases hf
  | some x =>
    cases x with
    | none => rw [e1] at hf; cases hf
    | some y =>
      obtain ⟨fl, d⟩ := y
      cases d with
      | list ds =>
        cases fl with
        | sh => rw [e1] at hf; cases hf
        | ow => rw [e1] at hf; exact ⟨⟨_, _, rfl, by decide⟩, hf⟩
        | bx => rw [e1] at hf; exact ⟨⟨_, _, rfl, by decide⟩, hf⟩
      | _ => rw [e1] at hf; cases fl <;> cases hf
theorem de_meth {x name : Str} (j : Nat) (slot : Slot "list" name id) (hty : typeOf (.builtin id) = pure (.type "method_descriptor")) (hm : MtR X id r) (hg : OpM r g) (ha : DA X (e :: es) fs)
    (hN : X.N[j]? = some x := by rfl) (hv : Vis X.env.scope x := by first | exact Or.inl rfl | exact Or.inr (Or.inl rfl) | exact Or.inr (Or.inr rfl)) (hd : (x == ("__debug__" : Str)) = false := by decide) (hcd : (x == ("__classdict__" : Str)) = false := by decide)
    (hbase : attributeBase (.Name x ppos) name X.env (eval (.Name x ppos) X.env) = eval (.Name x ppos) X.env := by rfl)
    (hfew : ((backTo pos (starEach (e :: es) X.env)).all (fun x => !x.1) && (backToKw pos (keywordEach [] X.env)).all (fun x => x.1.isSome)
      && decide ((e :: es).length + ([] : List Keyword).length + (if ([] : List Keyword).isEmpty then 0 else 1) < 30)) = true := by rfl)
    (hline : (apos.endLine == pos.line) = true := by rfl) (hs : starEach (e :: es) X.env = (false, eval e X.env) :: starEach es X.env := by rfl) (hplain : (backTo pos (starEach es X.env)).any (·.1) = false := by rfl) :
    DE X (.Call (.Attribute (.Name x ppos) name apos) (e :: es) [] pos) (fmeth j g fs) := by
  intro P T σ ρ H rv ρ' S hf Q q
  obtain ⟨⟨fl, ds, e1, hfl⟩, hf⟩ := fmeth_in hf
  obtain ⟨a, xs, q2, q3, q4⟩ := S.owL j fl ds e1 hfl
  refine PE.we (pe_bm PySem.F.plainAttrs_list slot hty hm (pe_var hN hv hd hcd) paW hbase hfew hline hs hplain) ⟨_, q2, .inl ⟨rfl, xs, .inl (.inl q3)⟩, ?_⟩
  exact meth_core hg (fun {P T σ ρ H rs ρ'} S h Q hq => ha P T σ ρ H rs ρ' S h Q fun vs H' T' _ A => hq vs H' T' A) S hf q2 q
theorem de_meth0 {x name : Str} (j : Nat) (slot : Slot "list" name id) (hty : typeOf (.builtin id) = pure (.type "method_descriptor")) (hm : MtR X id r) (hg : OpM r g)
    (hN : X.N[j]? = some x := by rfl) (hv : Vis X.env.scope x := by first | exact Or.inl rfl | exact Or.inr (Or.inl rfl) | exact Or.inr (Or.inr rfl)) (hd : (x == ("__debug__" : Str)) = false := by decide) (hcd : (x == ("__classdict__" : Str)) = false := by decide)
    (hbase : attributeBase (.Name x ppos) name X.env (eval (.Name x ppos) X.env) = eval (.Name x ppos) X.env := by rfl) (hline : (apos.endLine == pos.line) = true := by rfl) :
    DE X (.Call (.Attribute (.Name x ppos) name apos) [] [] pos) (fmeth j g fnil) := by
  intro P T σ ρ H rv ρ' S hf Q q
  obtain ⟨⟨fl, ds, e1, hfl⟩, hf⟩ := fmeth_in hf
  obtain ⟨a, xs, q2, q3, q4⟩ := S.owL j fl ds e1 hfl
  refine PE.we (pe_bm0 PySem.F.plainAttrs_list slot hty hm (pe_var hN hv hd hcd) hbase hline) ⟨_, q2, .inl ⟨rfl, xs, .inl (.inl q3)⟩, ?_⟩
  simp only [fmeth1, fnil, Option.bind_some] at hf
  simp only [datA, relA, Option.bind_some, e1] at hf
  have hf' : (g ds []).map (fun y => (RV.sh y.1, ρ.set j (some (fl, PyData.list y.2)))) = some (rv, ρ') := by
    cases fl with
    | sh => exact absurd rfl hfl
    | ow => exact hf
    | bx => exact hf
  simp only [Option.map_eq_some_iff] at hf'
  obtain ⟨⟨dr, es2⟩, k1, k2⟩ := hf'
  cases k2
  obtain ⟨v, xs', r3, r4, hw⟩ := hg _ H a xs ds [] [] dr es2 q3 q4 .nil k1
  refine hw Q ?_
  have na : ∀ b, Av P T σ ρ b → b ≠ a := fun b hb z => hb.2.1 (by rw [z]; exact ⟨j, fl, _, e1, hfl, q2⟩)
  have kp : ∀ b u, b ≠ a → H b = some u → (upd H a (.lst xs')) b = some u := fun b u hb e => by rw [upd_ne hb]; exact e
  have up : ∀ b u, Av P T σ ρ b → H b = some u → Av P T σ ρ b ∧ (upd H a (.lst xs')) b = some u := fun b u hb e => ⟨hb, kp b u (na b hb) e⟩
  obtain ⟨S4, st4⟩ := S.mut e1 hfl q2 kp upd_same (r3.mono up)
  exact q v _ T (aft_sh S4 st4 kp_set .refl (r4.mono (av_step st4 .refl)))
end
end DL
set_option Elab.async false
set_option linter.all false
set_option maxRecDepth 100000
set_option maxHeartbeats 2000000
namespace DL
open PySem PySem.Spec PyProof.Rows L2
structure RoomG (k : Nat) (A : Around) : Prop where
  rm : Room k A
  gd : A.guards = some []
theorem RoomG.mono {j k : Nat} {A : Around} (r : RoomG k A) (h : j ≤ k) : RoomG j A := ⟨r.rm.mono h, r.gd⟩
theorem RoomG.deeper {k : Nat} {A : Around} (r : RoomG (k + 1) A) (env : Env) : RoomG k (A.deeper env) := ⟨r.rm.deeper env, r.gd⟩
theorem RoomG.units {k : Nat} {A : Around} (r : RoomG k A) : A.units + 64 < cLine := r.rm.units
/-- the kit's promise of a def, asked of such calls alone -/
structure FnG (P : Program) (w : World) (K : PySem.W.Frag) (mg : Str → Option Value) (base : Heap) (CX : CXT) (k : Nat) (f : Addr) (fd : FuncData) (ps : List Str) (sp : Sp) : Prop where
  many : ∀ vs H Q E, sp vs H Q E → vs.length = ps.length
  runs : ∀ (A : Around) (outer : List Env) (s : Shared) (H : Hp) (args : Args) (us : List Value) (vs : List V) (Q : VK) (E : XK), RoomG k A → Env0 P w K mg base A outer s H → BindsTo s fd args (ps.zip us) →
    Vals vs us → sp vs H Q E → codeAny (model P w) A (.call (.ref f) args) (CR CX outer P w H s Q E) s
section
variable {X : Cx} {CX : CXT} {k : Nat} {f : Addr} {fd : FuncData} {ps ks : List Str} {sp : Sp} {E : XK} {x : Str} {p pos : Pos} {e : Expr} {es : List Expr} {kws : List Keyword} {t tk : TA}
  {g : List Value → List Value → List Value} {gV : List V → List V → List V}
theorem FnG.go {pins : List (Addr × Obj)} {σ : L2.St} {H : Hp} {s : Shared} {Q : VK} {args : Args} {us : List Value} {vs : List V} (F : FnG X.prog X.w X.K X.mg X.base CX k f fd ps sp) (hr : RoomG k X.A) (hx : Passes CX X E) (I : Inv X pins σ H s)
    (hb : BindsTo s fd args (ps.zip us)) (r : Vals vs us) (h : sp vs H Q E) : codeAny (model X.prog X.w) X.A (.call (.ref f) args) (fun r s' => match r with
      | .ok (.ret u) => EP X pins σ Q u s'
      | .ok _ => False
      | .error e => X.xe e s') s :=
  codeAny_mono (F.runs X.A X.stack s H args us vs Q E hr I.env0 hb r h) fun r s' hq => match r, hq with
    | .error e, hq => hx pins σ H s e s' I hq
    | .ok (.ret u), hq => I.after hq
    | .ok .next, hq => hq.elim
    | .ok .brk, hq => hq.elim
    | .ok .cont, hq => hq.elim
theorem pe_callG (F : FnG X.prog X.w X.K X.mg X.base CX k f fd ps sp) (hr : RoomG k X.A) (hg : Gl X x) (hm : X.mg x = some (.ref f)) (hk : PySem.W.keepIn X.K (.ref f) = true) (hb : Binds X.K fd ps []) (hx : Passes CX X E)
    (ha : PA X (e :: es) t) (hdb : (x == ("__debug__" : Str)) = false := by decide) (he : starEach (e :: es) X.env = (false, eval e X.env) :: starEach es X.env := by rfl) (hpl : (backTo pos (starEach es X.env)).any (·.1) = false := by rfl) :
    PE X (.Call (.Name x p) (e :: es) [] pos) (tCall sp [] E t) := by
  refine ⟨fun pins s σ H Q I h => wpAny_Call_Name_kw (ld_glob I hg hm ?_ hdb)⟩
  refine PySem.W.callWith_K (h₀ := X.base) I.ok.mod.kin hk (thn (ha.run pos pins s σ H _ I h) fun us s1 ⟨vs, H1, I1, r, q⟩ => ⟨I1.kIn, ?_⟩) he hpl
  have q' : sp (vs ++ []) H1 Q E := q
  rw [List.append_nil] at q'
  have hl : (us ++ []).length = ps.length := by rw [List.append_nil, ← r.length]; exact F.many _ _ _ _ q'
  have b1 := hb s1 us I1.kIn hl
  rw [List.append_nil] at b1
  refine wpAny_call (codeAny_mono (F.go hr hx I1 b1 r q') fun r s' hq => ?_)
  match r, hq with
  | .error e, hq => exact hq
  | .ok (.ret u), hq => exact hq
end
section
variable {P : Program} {w : World} {K : PySem.W.Frag} {mg : Str → Option Value} {base : Heap} {CX : CXT}
theorem FnG.mono {j k : Nat} {f : Addr} {fd : FuncData} {ps : List Str} {sp : Sp} (F : FnG P w K mg base CX j f fd ps sp) (h : j ≤ k) : FnG P w K mg base CX k f fd ps sp :=
  ⟨F.many, fun A outer s H args us vs Q E hr => F.runs A outer s H args us vs Q E (hr.mono h)⟩
/-- the promise of a def, from its body -/
theorem fnG_of {k : Nat} {x qual : Str} {st : Stmt} {f : Addr} {fd : FuncData} {N ps : List Str} {sp : Sp} (F : Fun K x qual st f fd) (S : FnScope N ps (defScope st)) (len : ∀ vs H Q E, sp vs H Q E → vs.length = ps.length)
    (hbody : ∀ (cdv : Value) (A : Around) (outer : List Env) (s : Shared) (H : Hp) (vs : List V) (Q : VK) (E : XK), RoomG k (A.deeper (envOfC qual (defScope st) s.heap.objs.size f cdv)) → sp vs H Q E →
      ∃ t, PSs (cxOf CX P w K mg base N qual (defScope st) f cdv A outer s H E).nox (defBody st) t ∧ t { nx := fun _ H' => Q .non H', rt := Q } (start N vs) H) : FnG P w K mg base CX (k + 1) f fd ps sp := by
  obtain ⟨oc, od, kV, doc, pm, an, cdv, ct, osl, rfl, lk, hcd⟩ := F.ex
  refine ⟨len, fun A outer s H args us vs Q E hr e0 hb r hsp => ?_⟩
  have old : ∀ b o, base.get? b = some o → s.heap.get? b = some o := fun b o e => (e0.bs b o e).1
  have KX := e0.mod.kin.keeps old
  have hl := len _ _ _ _ hsp
  refine codeAny_call_function hr.rm.depth (KX _ _ lk) rfl S.co S.gen rfl (PySem.W.codeRec_of KX hcd) (hb _ _ _ _ (wpAny_newFunctionEnv_cells S.kind (fun y hy => ?_) fun env he s1 x => ?_))
  · rcases S.par y.1 (List.of_mem_zip hy).1 with q | q
    · exact .inl q
    · exact .inr ⟨q, PySem.W.cellsFrom_some _ _ _ (.inl q)⟩
  · subst he
    obtain ⟨t, ht, hq⟩ := hbody cdv A outer s H vs Q E (hr.deeper _) hsp
    have I : Inv (cxOf CX P w K mg base N qual (defScope st) f cdv A outer s H E) [] (start N vs) H s1 := inv_start S hr.rm.hd e0 hl r x
    refine ⟨(e0.mod.nolimit.keeps old).keeps x.toInCall.keep, codeAny_func (wpAny_mono (ht.nox.run [] s1 (start N vs) H _ I hq) (fun fl s' hs => ?_) fun e s' hs => hs)⟩
    match fl, hs with
    | .ret u, ⟨v, σ', H', J, rv, q⟩ => exact ⟨v, H', J.os, J.bare, J.base, J.hok, rv, q⟩
    | .next, ⟨σ', H', J, q⟩ => exact ⟨V.non, H', J.os, J.bare, J.base, J.hok, rfl, q⟩
    | .brk, ⟨_, _, _, q⟩ => exact q.elim
    | .cont, ⟨_, _, _, q⟩ => exact q.elim
end
end DL
set_option Elab.async false
set_option linter.all false
set_option maxRecDepth 100000
set_option maxHeartbeats 2000000
namespace DL
open PySem PySem.Spec PyProof.Rows L2
/-- a def's answer: is it a new list; the value; what the box holds behind -/
structure FR where
  fr : Bool
  d : D
  bx : List D
abbrev FS := List D → Option FR
def IsBx (k : Option Nat) (vs : List V) (b : Addr) : Prop := ∃ i, k = some i ∧ vs[i]? = some (V.ref b)
structure ArgsOk (k : Option Nat) (S : Addr → Prop) (H : Hp) (vs : List V) (ds : List D) : Prop where
  len : vs.length = ds.length
  sh : ∀ (i : Nat) (v : V) (d : D), k ≠ some i → vs[i]? = some v → ds[i]? = some d → Rep S H v d
  bx : ∀ (i : Nat) (v : V) (d : D), k = some i → vs[i]? = some v → ds[i]? = some d → ∃ a xs es, v = V.ref a ∧ d = .list es ∧ H a = some (.lst xs) ∧ RepA S H xs es ∧ ¬ S a
  tp : ∀ b xs, H b = some (.tup xs) → S b
def Nw (S : Addr → Prop) (H : Hp) (T : Addr → Prop) (b : Addr) : Prop := (S b ∨ H b = none) ∧ ¬ T b
structure PostF (k : Option Nat) (S : Addr → Prop) (H : Hp) (vs : List V) (r : FR) (v : V) (H' : Hp) (T : Addr → Prop) : Prop where
  keep : ∀ b o, H b = some o → ¬ IsBx k vs b → H' b = some o
  dom : ∀ b o, H b = some o → ∃ o', H' b = some o'
  tn : ∀ b, T b → H b = none
  res : r.fr = false → Rep (Nw S H T) H' v r.d
  fr : r.fr = true → ∃ a o, v = V.ref a ∧ T a ∧ H' a = some o ∧ OwnC (Nw S H T) H' o r.d
  bx : ∀ b, IsBx k vs b → ∃ xs, H' b = some (.lst xs) ∧ RepA (Nw S H T) H' xs r.bx
def spD (k : Option Nat) (F : FS) : Sp := fun vs H Q _ => ∃ (S : Addr → Prop) (ds : List D) (r : FR), F ds = some r ∧ ArgsOk k S H vs ds ∧ ∀ v H' T, PostF k S H vs r v H' T → Q v H'
def hasAl (j : Nat) (rs : List RV) : Bool := rs.any fun r => match r with
  | .al i => i == j
  | _ => false
def setNo (k : Option Nat) (rs : List RV) : List RV := match k with
  | some i => rs.set i (.sh .none)
  | none => rs
def frOf (r : FR) : RV := if r.fr then .fr r.d else .sh r.d
def lone (k : Option Nat) (r : FR) : Bool := atom r.d && (k.isNone || r.bx.all atom)
def fcallEnd (k : Option Nat) (rs : List RV) (ρ1 : En) (r : FR) : Option (RV × En) :=
  (if lone k r then some ρ1 else relA ρ1 (setNo k rs)).bind fun ρ2 => match k with
  | none => some (frOf r, ρ2)
  | some i => match rs[i]? with
    | some (.al j) => if hasAl j (rs.set i (.sh .none)) then none else match ρ2[j]? with
      | some (some (.sh, _)) => none
      | some (some (fl, .list _)) => some (frOf r, ρ2.set j (some (fl, .list r.bx)))
      | _ => none
    | _ => none
def fcall (k : Option Nat) (F : FS) (fs : Fa) : Fe := fun ρ => (fs ρ).bind fun x => (datA x.2 x.1).bind fun ds => (F ds).bind fun r => fcallEnd k x.1 x.2 r
section
variable {P : Pk} {T T' : Addr → Prop} {σ : SS} {ρ ρ' : En} {H H' : Hp} {v : V} {r : RV}
/-- a value read with all that is tracked but some owned objects -/
theorem Val.wide {Z : Addr → Prop} {d : D} (V0 : Val P T σ ρ H v r) (S : Sim P T σ ρ H) (hd : dat ρ r = some d) (hz : ∀ b, Z b → ∃ (j : Nat) (fl : Fl) (e : D), ρ[j]? = some (some (fl, e)) ∧ fl ≠ .sh ∧ σ[j]? = some (some (V.ref b)) ∧ r ≠ .al j) : Rep (fun b => (∃ o, H b = some o) ∧ ¬ Z b) H v d := by
  have zo : ∀ b, Z b → Own σ ρ b := fun b q => by
    obtain ⟨j, fl, e, h1, h2, h3, _⟩ := hz b q
    exact ⟨j, fl, e, h1, h2, h3⟩
  have up : ∀ a o, Av P T σ ρ a → H a = some o → ((∃ o, H a = some o) ∧ ¬ Z a) ∧ H a = some o := fun a o ⟨_, h2, _⟩ e => ⟨⟨⟨o, e⟩, fun q => h2 (zo a q)⟩, e⟩
  cases r with
  | sh e => cases hd; exact Rep.mono V0 up
  | fr e =>
    cases hd
    obtain ⟨a, o, e1, ta, ha, hn, hr⟩ := V0
    subst e1
    exact (hr.mono up).rep ⟨⟨_, ha⟩, fun q => (S.tn a ta).2 (zo a q)⟩ ha
  | al i =>
    obtain ⟨e1, _⟩ := V0
    obtain ⟨fl, e2⟩ := dat_al hd
    by_cases hf : fl = .sh
    · subst hf
      obtain ⟨v', q1, q2⟩ := S.sh i d e2
      rw [e1] at q1; cases q1
      exact q2.mono up
    · obtain ⟨a, o, q2, q3, q4⟩ := S.ow i fl d e2 hf
      rw [e1] at q2; cases q2
      refine (q4.mono up).rep ⟨⟨_, q3⟩, fun q => ?_⟩ q3
      obtain ⟨j, fl', e, h1, h2, h3, h4⟩ := hz a q
      have := S.dj i j fl fl' _ e a e2 hf h1 h2 e1 h3
      subst this
      exact h4 rfl
theorem hasAl_no {j : Nat} {rs : List RV} (h : hasAl j rs = false) {i : Nat} {r : RV} (e : rs[i]? = some r) : r ≠ .al j := by
  intro z
  subst z
  have : hasAl j rs = true := List.any_eq_true.mpr ⟨_, List.mem_of_getElem? e, by simp⟩
  rw [h] at this; cases this
theorem relA_keep {j : Nat} : ∀ {rs : List RV} {ρ ρ' : En}, relA ρ rs = some ρ' → hasAl j rs = false → ρ'[j]? = ρ[j]?
  | [], ρ, ρ', h, _ => by cases h; rfl
  | r :: rs, ρ, ρ', h, ha => by
    unfold relA at h
    cases e : rel ρ r with
    | none => rw [e] at h; cases h
    | some ρ1 =>
      rw [e] at h
      have h : relA ρ1 rs = some ρ' := h
      have h1 : hasAl j rs = false := by
        unfold hasAl at ha ⊢
        rw [List.any_cons, Bool.or_eq_false_iff] at ha
        exact ha.2
      rw [relA_keep h h1]
      rcases rel_spec e with rfl | ⟨i, d, rfl, e2, rfl⟩
      · rfl
      · have : i ≠ j := fun z => by
          subst z
          unfold hasAl at ha
          simp at ha
        exact List.getElem?_set_ne this
theorem ValA.set {v : V} {r : RV} (q : Val P T σ ρ H v r) : ∀ {vs : List V} {rs : List RV} {i : Nat}, ValA P T σ ρ H vs rs → ValA P T σ ρ H (vs.set i v) (rs.set i r)
  | [], [], _, _ => trivial
  | w :: vs, s :: rs, 0, h => ⟨q, h.2⟩
  | w :: vs, s :: rs, i + 1, h => ⟨h.1, ValA.set (i := i) q h.2⟩
  | [], _ :: _, _, h => h.elim
  | _ :: _, [], _, h => h.elim
theorem datA_set {r : RV} {d : D} (q : dat ρ r = some d) : ∀ {rs : List RV} {ds : List D} {i : Nat}, datA ρ rs = some ds → datA ρ (rs.set i r) = some (ds.set i d)
  | [], ds, i, h => by cases h; rfl
  | s :: rs, ds, i, h => by
    unfold datA at h
    cases e1 : dat ρ s with
    | none => rw [e1] at h; cases h
    | some d1 =>
      cases e2 : datA ρ rs with
      | none => rw [e1, e2] at h; cases h
      | some ds1 =>
        rw [e1, e2] at h
        cases h
        cases i with
        | zero => show datA ρ (r :: rs) = _; unfold datA; rw [q, e2]; rfl
        | succ i => show datA ρ (s :: rs.set i r) = _; unfold datA; rw [e1, datA_set q e2]; rfl
theorem datA_get : ∀ {rs : List RV} {ds : List D} {i : Nat} {r : RV}, datA ρ rs = some ds → rs[i]? = some r → ∃ d, dat ρ r = some d ∧ ds[i]? = some d
  | [], ds, i, r, h, e => by simp at e
  | s :: rs, ds, i, r, h, e => by
    unfold datA at h
    cases e1 : dat ρ s with
    | none => rw [e1] at h; cases h
    | some d1 =>
      cases e2 : datA ρ rs with
      | none => rw [e1, e2] at h; cases h
      | some ds1 =>
        rw [e1, e2] at h
        cases h
        cases i with
        | zero => simp at e; subst e; exact ⟨d1, e1, rfl⟩
        | succ i =>
          obtain ⟨d, q1, q2⟩ := datA_get (i := i) e2 (by simpa using e)
          exact ⟨d, q1, by simpa using q2⟩
theorem datA_len : ∀ {rs : List RV} {ds : List D}, datA ρ rs = some ds → ds.length = rs.length
  | [], ds, h => by cases h; rfl
  | s :: rs, ds, h => by
    unfold datA at h
    cases e1 : dat ρ s with
    | none => rw [e1] at h; cases h
    | some d1 =>
      cases e2 : datA ρ rs with
      | none => rw [e1, e2] at h; cases h
      | some ds1 =>
        rw [e1, e2] at h
        cases h
        simp [datA_len e2]
theorem ValA.vget : ∀ {vs : List V} {rs : List RV} {i : Nat} {v : V}, ValA P T σ ρ H vs rs → vs[i]? = some v → ∃ r, rs[i]? = some r ∧ Val P T σ ρ H v r
  | [], [], i, r, _, e => by simp at e
  | v :: vs, q :: rs, i, r, h, e => by
    cases i with
    | zero => simp at e; subst e; exact ⟨q, rfl, h.1⟩
    | succ i =>
      obtain ⟨w, h1, h2⟩ := ValA.vget (i := i) (v := r) h.2 (by simpa using e)
      exact ⟨w, by simpa using h1, h2⟩
  | [], _ :: _, _, _, h, _ => h.elim
  | _ :: _, [], _, _, h, _ => h.elim
/-- behind the arguments: the call -/
theorem call_core {k : Option Nat} {F : FS} {rs : List RV} {ρ1 ρ3 : En} {H1 : Hp} {T1 : Addr → Prop} {vs : List V} {ds : List D} {fr : FR} {rv : RV} {Q : VK} {E : XK} (S0 : Sim P T σ ρ H) (A : AftA P T σ ρ H rs ρ1 vs H1 T1) (hd : datA ρ1 rs = some ds) (hF : F ds = some fr)
    (he : fcallEnd k rs ρ1 fr = some (rv, ρ3)) (q : ∀ v H' T', Aft P T σ ρ H rv ρ3 v H' T' → Q v H') : spD k F vs H1 Q E := by
  simp only [fcallEnd, Option.bind_eq_some_iff] at he
  obtain ⟨ρ2, e2, e3⟩ := he
  -- the env behind the letting go
  have rel2 : Sim P T1 σ ρ2 H1 ∧ Stp σ ρ1 H1 σ ρ2 H1 ∧ Kp ρ1 ρ2 ∧ (lone k fr = false → ∀ (i : Nat) (v : V) (d : D), k ≠ some i → vs[i]? = some v → ds[i]? = some d → Rep (Av P T σ ρ2) H1 v d) := by
    by_cases hl : lone k fr = true
    · rw [if_pos hl] at e2; cases e2
      exact ⟨A.sim, .refl, .refl, fun z => by rw [hl] at z; cases z⟩
    · rw [if_neg hl] at e2
      have tx := tx_not A S0
      cases k with
      | none =>
        obtain ⟨S2, st2, kp2, r2⟩ := relA_spec A.sim A.val A.tg.1 tx hd e2
        refine ⟨S2, st2, kp2, fun _ i v d _ h1 h2 => ?_⟩
        obtain ⟨d', q1, q2⟩ := r2.get h1
        rw [h2] at q1; cases q1; exact q2
      | some i0 =>
        have hv : ValA P T1 σ ρ1 H1 (vs.set i0 .non) (rs.set i0 (.sh .none)) := ValA.set (v := .non) (r := .sh .none) (show Rep _ _ _ _ from Rep.non) A.val
        obtain ⟨S2, st2, kp2, r2⟩ := relA_spec A.sim hv A.tg.1 (fun i d a h1 h2 => by
          by_cases hi : i0 = i
          · subst hi
            rw [List.getElem?_set] at h1
            simp only [if_true] at h1
            split at h1 <;> cases h1
          · rw [List.getElem?_set_ne hi] at h1 h2
            exact tx i d a h1 h2) (datA_set (i := i0) (r := .sh .none) (d := .none) rfl hd) e2
        refine ⟨S2, st2, kp2, fun _ i v d hk h1 h2 => ?_⟩
        have hi : i0 ≠ i := fun z => hk (by rw [z])
        obtain ⟨d', q1, q2⟩ := r2.get (i := i) (v := v) (by rw [List.getElem?_set_ne hi]; exact h1)
        rw [List.getElem?_set_ne hi, h2] at q1; cases q1; exact q2
  obtain ⟨S2, st2, kp2, hrep⟩ := rel2
  have S2T := S2.less A.tg.1
  -- the box
  have box : (∀ b, ¬ IsBx k vs b) ∧ rv = frOf fr ∧ ρ3 = ρ2 ∧ k = none ∨ ∃ (i j : Nat) (fl : Fl) (es : List D) (a : Addr) (xs : List V), k = some i ∧ rs[i]? = some (.al j) ∧ hasAl j (rs.set i (.sh .none)) = false ∧ ρ2[j]? = some (some (fl, .list es)) ∧ fl ≠ .sh ∧ σ[j]? = some (some (V.ref a)) ∧ H1 a = some (.lst xs) ∧ RepA (Av P T σ ρ2) H1 xs es ∧
      ρ1[j]? = some (some (fl, .list es)) ∧ vs[i]? = some (V.ref a) ∧ ds[i]? = some (.list es) ∧ rv = frOf fr ∧ ρ3 = ρ2.set j (some (fl, .list fr.bx)) := by
    cases k with
    | none => cases e3; exact .inl ⟨fun b ⟨i, h, _⟩ => (nomatch h), rfl, rfl, rfl⟩
    | some i =>
      right
      cases h1 : rs[i]? with
      | none => simp only [h1] at e3; cases e3
      | some r =>
        cases r with
        | sh d => simp only [h1] at e3; cases e3
        | fr d => simp only [h1] at e3; cases e3
        | al j =>
          simp only [h1] at e3
          by_cases ha : hasAl j (rs.set i (.sh .none)) = true
          · rw [if_pos ha] at e3; cases e3
          · rw [if_neg ha] at e3
            have ha : hasAl j (rs.set i (.sh .none)) = false := by simpa using ha
            cases h2 : ρ2[j]? with
            | none => simp only [h2] at e3; cases e3
            | some x =>
              cases x with
              | none => simp only [h2] at e3; cases e3
              | some y =>
                obtain ⟨fl, d⟩ := y
                by_cases hfl : fl = .sh
                · subst hfl; simp only [h2] at e3; cases e3
                · obtain ⟨a, o, q2, q3, q4⟩ := S2T.ow j fl d h2 hfl
                  cases q4 with
                  | dct => simp only [h2] at e3; cases fl <;> cases e3
                  | @lst xs es q4 =>
                  have e3' : some (frOf fr, ρ2.set j (some (fl, PyData.list fr.bx))) = some (rv, ρ3) := by
                    simp only [h2] at e3
                    cases fl with
                    | sh => exact absurd rfl hfl
                    | ow => exact e3
                    | bx => exact e3
                  cases e3'
                  have h3 : ρ1[j]? = some (some (fl, .list es)) := by
                    by_cases hl : lone (some i) fr = true
                    · rw [if_pos hl] at e2; cases e2; exact h2
                    · rw [if_neg hl] at e2
                      rw [← relA_keep e2 ha]; exact h2
                  obtain ⟨v, k1, k2⟩ := A.val.get h1
                  obtain ⟨k3, _⟩ := k2
                  rw [q2] at k3; cases k3
                  obtain ⟨d', k4, k5⟩ := datA_get hd h1
                  rw [dat_al', h3] at k4; cases k4
                  exact ⟨i, j, fl, es, a, xs, rfl, h1, ha, h2, hfl, q2, q3, q4, h3, k1, k5, rfl, rfl⟩
  have isbx : ∀ b, IsBx k vs b → ∃ (i j : Nat) (fl : Fl) (e : D), k = some i ∧ rs[i]? = some (.al j) ∧ hasAl j (rs.set i (.sh .none)) = false ∧ ρ1[j]? = some (some (fl, e)) ∧ fl ≠ .sh ∧ σ[j]? = some (some (V.ref b)) := fun b hb => by
    rcases box with ⟨h, _⟩ | ⟨i, j, fl, es, a, xs, h1, h2, h3, h4, h5, h6, h7, h8, h9, h10, _⟩
    · exact (h b hb).elim
    · obtain ⟨i', z1, z2⟩ := hb
      rw [h1] at z1; cases z1
      rw [h10] at z2; cases z2
      exact ⟨i, j, fl, _, h1, h2, h3, h9, h5, h6⟩
  have bxown : ∀ b, IsBx k vs b → Own σ ρ2 b := fun b hb => by
    rcases box with ⟨h, _⟩ | ⟨i, j, fl, es, a, xs, h1, h2, h3, h4, h5, h6, h7, h8, h9, h10, _⟩
    · exact (h b hb).elim
    · obtain ⟨i', z1, z2⟩ := hb
      rw [h1] at z1; cases z1
      rw [h10] at z2; cases z2
      exact ⟨j, fl, _, h4, h5, h6⟩
  refine ⟨fun b => (∃ o, H1 b = some o) ∧ ¬ IsBx k vs b ∧ (lone k fr = false → Av P T σ ρ2 b), ds, fr, hF, ⟨?_, fun i v d hk h1 h2 => ?_, fun i v d hk h1 h2 => ?_, fun b zs hz => ?_⟩, fun v H' T3 po => ?_⟩
  · rw [A.val.length, datA_len hd]
  · by_cases hl : lone k fr = true
    · obtain ⟨r, r1, r2⟩ := A.val.vget h1
      obtain ⟨d', k1, k2⟩ := datA_get hd r1
      rw [h2] at k2; cases k2
      refine (r2.wide (Z := IsBx k vs) A.sim k1 fun b hb => ?_).mono fun a o ⟨z1, z2⟩ e => ⟨⟨z1, z2, fun z => by rw [hl] at z; cases z⟩, e⟩
      obtain ⟨i', j, fl, e, y1, y2, y3, y4, y5, y6⟩ := isbx b hb
      refine ⟨j, fl, e, y4, y5, y6, ?_⟩
      have hi : i' ≠ i := fun z => hk (by rw [y1, z])
      exact hasAl_no y3 (by rw [List.getElem?_set_ne hi]; exact r1)
    · have hl : lone k fr = false := by simpa using hl
      exact (hrep hl i v d hk h1 h2).mono fun a o z e => ⟨⟨⟨o, e⟩, fun hb => z.2.1 (bxown a hb), fun _ => z⟩, e⟩
  · rcases box with ⟨_, _, _, h⟩ | ⟨i', j, fl, es, a, xs, y1, y2, y3, y4, y5, y6, y7, y8, y9, y10, y11, _⟩
    · rw [h] at hk; cases hk
    · rw [y1] at hk
      obtain rfl : i' = i := Option.some.inj hk
      rw [y10] at h1; cases h1
      rw [y11] at h2; cases h2
      exact ⟨a, xs, es, rfl, rfl, y7, y8.mono fun b o z e => ⟨⟨⟨o, e⟩, fun hb => z.2.1 (bxown b hb), fun _ => z⟩, e⟩, fun z => z.2.1 ⟨i', y1, y10⟩⟩
  · obtain ⟨t1, t2⟩ := S2T.tp b zs hz
    have no := tup_own S2T hz
    exact ⟨⟨_, hz⟩, fun hb => no (bxown b hb), fun _ => ⟨t1, no, t2⟩⟩
  -- behind the call
  · have nw : lone k fr = false → ∀ T2 : Addr → Prop, (∀ b, T2 b → T b ∨ T3 b) → ∀ b o, Nw (fun b => (∃ o, H1 b = some o) ∧ ¬ IsBx k vs b ∧ (lone k fr = false → Av P T σ ρ2 b)) H1 T3 b → H' b = some o → Av P T2 σ ρ2 b ∧ H' b = some o := fun hl T2 h2 b o ⟨z1, z2⟩ e => by
      rcases z1 with ⟨_, _, z⟩ | z
      · obtain ⟨y1, y2, y3⟩ := z hl
        exact ⟨⟨y1, y2, fun q => (h2 b q).elim y3 z2⟩, e⟩
      · refine ⟨⟨.inr (h0_none S2T z), fun q => ?_, fun q => (h2 b q).elim (fun q => ?_) z2⟩, e⟩
        · obtain ⟨o', e'⟩ := own_dom S2T q
          rw [z] at e'; cases e'
        · obtain ⟨⟨o', e'⟩, _⟩ := S2T.tn b q
          rw [z] at e'; cases e'
    classical
    -- the heap with the box as it was
    let Hm : Hp := fun b => if IsBx k vs b then H1 b else H' b
    have hm1 : ∀ b, ¬ IsBx k vs b → Hm b = H' b := fun b hb => if_neg hb
    have hm2 : ∀ b, IsBx k vs b → Hm b = H1 b := fun b hb => if_pos hb
    have up : ∀ b o, H1 b = some o → Hm b = some o := fun b o e => by
      by_cases hb : IsBx k vs b
      · rw [hm2 b hb]; exact e
      · rw [hm1 b hb]; exact po.keep b o e hb
    have nb : ∀ b, H1 b = none → ¬ IsBx k vs b := fun b e hb => by
      obtain ⟨o, e'⟩ := own_dom S2T (bxown b hb)
      rw [e] at e'; cases e'
    -- the end for one T2
    have fin : ∀ T2 : Addr → Prop, Tg T H1 T2 → (∀ b, T2 b → T b ∨ T3 b) → (∀ b, T2 b → ∃ o, Hm b = some o) → (∀ b, T2 b → T b ∨ ∀ xs, Hm b ≠ some (.tup xs)) → Sim P T2 σ ρ3 H' ∧ Stp σ ρ H σ ρ3 H' ∧ Kp ρ ρ3 ∧ (∀ b, Own σ ρ3 b → Own σ ρ2 b) := fun T2 tg h2 h3 h4 => by
      obtain ⟨Sm, stm⟩ := S2T.grow tg up h3 h4
      rcases box with ⟨hb, _, e, _⟩ | ⟨i', j, fl, es, a, xs, y1, y2, y3, y4, y5, y6, y7, y8, y9, y10, y11, y12, y13⟩
      · have ee : Hm = H' := funext fun b => hm1 b (hb b)
        rw [ee] at Sm stm
        rw [e]
        exact ⟨Sm, (A.stp.trans st2).trans stm, A.kp.trans kp2, fun _ z => z⟩
      · have ab : IsBx k vs a := ⟨i', y1, y10⟩
        obtain ⟨xs', z1, z2⟩ := po.bx a ab
        have r3 : RepA (Av P T2 σ ρ2) H' xs' fr.bx := by
          by_cases hl : lone k fr = true
          · have : fr.bx.all atom = true := by
              rw [y1] at hl
              unfold lone at hl
              simp only [Option.isNone_some, Bool.false_or, Bool.and_eq_true] at hl
              exact hl.2
            exact RepA.atoms this z2
          · exact z2.mono (nw (by simpa using hl) T2 h2)
        obtain ⟨Sf, stf⟩ := Sm.mut (H' := H') y4 y5 y6 (fun b o hb e => by
          have : ¬ IsBx k vs b := fun ⟨i2, w1, w2⟩ => by
            rw [y1] at w1; cases w1
            rw [y10] at w2; cases w2
            exact hb rfl
          rw [hm1 b this] at e
          exact e) z1 r3
        rw [y13]
        refine ⟨Sf, ((A.stp.trans st2).trans stm).trans stf, (A.kp.trans kp2).trans kp_set, fun b z => ?_⟩
        obtain ⟨i2, f2, d2, w1, w2, w3⟩ := z
        rcases get_set w1 with ⟨rfl, w4⟩ | ⟨_, w4⟩
        · exact ⟨_, fl, _, y4, y5, w3⟩
        · exact ⟨i2, f2, d2, w4, w2, w3⟩
    have erv : rv = frOf fr := by
      rcases box with ⟨_, e, _⟩ | ⟨_, _, _, _, _, _, _, _, _, _, _, _, _, _, _, _, _, e, _⟩
      · exact e
      · exact e
    cases hfr : fr.fr with
    | false =>
      have e1 : rv = .sh fr.d := by rw [erv]; unfold frOf; rw [hfr]; rfl
      obtain ⟨Sf, stf, kpf, owf⟩ := fin T .refl (fun _ h => .inl h) (fun b h => by
        obtain ⟨o, e⟩ := (S2T.tn b h).1
        exact ⟨o, up b o e⟩) (fun _ h => .inl h)
      rw [e1] at q
      refine q v H' T (aft_sh Sf stf kpf .refl ?_)
      by_cases ha : atom fr.d = true
      · exact (po.res hfr).atom ha
      · have hl : lone k fr = false := by unfold lone; rw [(by simpa using ha : atom fr.d = false)]; rfl
        refine (po.res hfr).mono fun b o z e => ?_
        obtain ⟨⟨w1, w2, w3⟩, w4⟩ := nw hl T (fun _ h => .inl h) b o z e
        exact ⟨⟨w1, fun y => w2 (owf b y), w3⟩, w4⟩
    | true =>
      have e1 : rv = .fr fr.d := by rw [erv]; unfold frOf; rw [hfr]; rfl
      obtain ⟨a, o, z1, z3, z4, z5⟩ := po.fr hfr
      have hl : lone k fr = false := by unfold lone; rw [z5.atom]; rfl
      have hna : H1 a = none := po.tn a z3
      obtain ⟨Sf, stf, kpf, owf⟩ := fin (fun b => T b ∨ b = a) ⟨fun b h => .inl h, fun b h => h.elim .inl fun e => by subst e; exact .inr hna⟩ (fun b h => h.elim .inl fun e => by subst e; exact .inr z3) (fun b h => by
        rcases h with h | rfl
        · obtain ⟨o, e⟩ := (S2T.tn b h).1
          exact ⟨o, up b o e⟩
        · exact ⟨_, by rw [hm1 b (nb b hna)]; exact z4⟩) (fun b h => by
        rcases h with h | rfl
        · exact .inl h
        · refine .inr fun xs e => ?_
          rw [hm1 b (nb b hna), z4] at e
          exact z5.ntup xs (Option.some.inj e))
      rw [e1] at q
      refine q v H' _ ⟨Sf, stf, kpf, ⟨a, z1, ?_, rfl⟩, a, _, z1, .inr rfl, z4, h0_none S2T hna, ?_⟩
      · cases e : H a with
        | none => rfl
        | some o =>
          obtain ⟨o', e'⟩ := A.stp.dm a o e
          rw [hna] at e'; cases e'
      · refine z5.mono fun b o z e => ?_
        obtain ⟨⟨w1, w2, w3⟩, w4⟩ := nw hl T (fun _ h => .inl h) b o z e
        exact ⟨⟨w1, fun y => w2 (owf b y), fun y => y.elim w3 fun y => z.2 (by rw [y]; exact z3)⟩, w4⟩
end
section
variable {X : Cx} {k : Option Nat} {F : FS} {fs : Fa} {lv : Nat} {f : Addr} {fd : FuncData} {ps : List Str} {x : Str} {p pos : Pos} {e : Expr} {es : List Expr}
theorem de_call (FO : FnG X.prog X.w X.K X.mg X.base CX0 lv f fd ps (spD k F)) (hr : RoomG lv X.A) (hg : Gl X x) (hm : X.mg x = some (.ref f)) (hk : PySem.W.keepIn X.K (.ref f) = true) (hb : Binds X.K fd ps [])
    (ha : DA X (e :: es) fs) (hdb : (x == ("__debug__" : Str)) = false := by decide) (he : starEach (e :: es) X.env = (false, eval e X.env) :: starEach es X.env := by rfl) (hpl : (backTo pos (starEach es X.env)).any (·.1) = false := by rfl) :
    DE X (.Call (.Name x p) (e :: es) [] pos) (fcall k F fs) := by
  intro P T σ ρ H r ρ' S hf Q q
  simp only [fcall, Option.bind_eq_some_iff] at hf
  obtain ⟨⟨rs, ρ1⟩, h1, ds, h2, fr, h3, h4⟩ := hf
  refine PE.we (pe_callG FO hr hg hm hk hb pass0 paW hdb he hpl) (ha P T σ ρ H rs ρ1 S h1 _ fun vs H1 T1 _ A => ?_)
  rw [List.append_nil]
  exact call_core S A h2 h3 h4 q
end
end DL
set_option Elab.async false
set_option linter.all false
set_option maxRecDepth 100000
set_option maxHeartbeats 2000000
namespace DL
open PySem PySem.Spec PyProof.Rows L2
section
variable {P : Pk} {T T2 : Addr → Prop} {σ σ' : SS} {ρ ρ' : En} {H H' : Hp}
theorem Sim.setSh {i : Nat} {v : V} {d : D} (S : Sim P T σ ρ H) (r : Rep (Av P T σ ρ) H v d) : Sim P T (σ.set i (some v)) (ρ.set i (some (.sh, d))) H ∧ Stp σ ρ H (σ.set i (some v)) (ρ.set i (some (.sh, d))) H := by
  have back : ∀ (j : Nat) (fl : Fl) (e : D), (ρ.set i (some (.sh, d)))[j]? = some (some (fl, e)) → fl ≠ .sh → j ≠ i ∧ ρ[j]? = some (some (fl, e)) ∧ (σ.set i (some v))[j]? = σ[j]? := fun j fl e h1 h2 => by
    rcases get_set h1 with ⟨rfl, q⟩ | ⟨hj, q⟩
    · cases q; exact absurd rfl h2
    · exact ⟨hj, q, List.getElem?_set_ne (Ne.symm hj)⟩
  have ow : ∀ b, Own (σ.set i (some v)) (ρ.set i (some (.sh, d))) b → Own σ ρ b := fun b ⟨j, fl, e, h1, h2, h3⟩ => by
    obtain ⟨_, q1, q2⟩ := back j fl e h1 h2
    exact ⟨j, fl, e, q1, h2, by rw [← q2]; exact h3⟩
  have st : Stp σ ρ H (σ.set i (some v)) (ρ.set i (some (.sh, d))) H := ⟨fun _ _ h _ => h, fun b q => .inl (ow b q), fun _ o h => ⟨o, h⟩⟩
  have av := av_step (P := P) st (Tg.refl (T := T) (H := H))
  refine ⟨⟨by rw [List.length_set, List.length_set]; exact S.len, fun j e h => ?_, fun j fl e h n => ?_, fun j k f1 f2 d1 d2 a h1 h2 h3 h4 h5 h6 => ?_, fun j e a h1 h2 => ?_, fun j e h => ?_, fun b q => ⟨(S.tn b q).1, fun z => (S.tn b q).2 (ow b z)⟩, S.keep, S.dom, S.sB, S.tp⟩, st⟩
  · rcases get_set h with ⟨rfl, q⟩ | ⟨hj, q⟩
    · cases q
      refine ⟨v, ?_, r.mono av⟩
      have hl : j < ρ.length := by
        have := (List.getElem?_eq_some_iff.mp h).1
        rwa [List.length_set] at this
      exact List.getElem?_set_self (by rw [S.len]; exact hl)
    · obtain ⟨w, q1, q2⟩ := S.sh j e q
      exact ⟨w, by rw [List.getElem?_set_ne (Ne.symm hj)]; exact q1, q2.mono av⟩
  · obtain ⟨_, q1, q2⟩ := back j fl e h n
    obtain ⟨a, o, k2, k3, k4⟩ := S.ow j fl e q1 n
    exact ⟨a, o, by rw [q2]; exact k2, k3, k4.mono av⟩
  · obtain ⟨_, q1, q2⟩ := back j f1 d1 h1 h2
    obtain ⟨_, q3, q4⟩ := back k f2 d2 h3 h4
    exact S.dj j k f1 f2 d1 d2 a q1 h2 q3 h4 (by rw [← q2]; exact h5) (by rw [← q4]; exact h6)
  · obtain ⟨_, q1, q2⟩ := back j .ow e h1 (by decide)
    exact S.new j e a q1 (by rw [← q2]; exact h2)
  · obtain ⟨_, q1, q2⟩ := back j .bx e h (by decide)
    rw [q2]
    exact S.bx j e q1
theorem Sim.setOw {i : Nat} {a : Addr} {o : HO} {d : D} (S : Sim P T σ ρ H) (ta : T a) (ha : H a = some o) (h0 : P.H0 a = none) (r : OwnC (Av P T σ ρ) H o d) :
    Sim P (fun b => T b ∧ b ≠ a) (σ.set i (some (.ref a))) (ρ.set i (some (.ow, d))) H ∧ (∀ b o, Av P T σ ρ b → H b = some o → Av P (fun b => T b ∧ b ≠ a) (σ.set i (some (.ref a))) (ρ.set i (some (.ow, d))) b ∧ H b = some o) ∧
      (∀ b, Own (σ.set i (some (.ref a))) (ρ.set i (some (.ow, d))) b → Own σ ρ b ∨ b = a) := by
  have back : ∀ (j : Nat) (fl : Fl) (e : D), (ρ.set i (some (.ow, d)))[j]? = some (some (fl, e)) → (j = i ∧ fl = .ow ∧ e = d ∧ (σ.set i (some (.ref a)))[j]? = some (some (.ref a))) ∨ (j ≠ i ∧ ρ[j]? = some (some (fl, e)) ∧ (σ.set i (some (V.ref a)))[j]? = σ[j]?) := fun j fl e h1 => by
    rcases get_set h1 with ⟨rfl, q⟩ | ⟨hj, q⟩
    · cases q
      refine .inl ⟨rfl, rfl, rfl, List.getElem?_set_self ?_⟩
      have := (List.getElem?_eq_some_iff.mp h1).1
      rw [List.length_set] at this
      rw [S.len]; exact this
    · exact .inr ⟨hj, q, List.getElem?_set_ne (Ne.symm hj)⟩
  have ow : ∀ b, Own (σ.set i (some (.ref a))) (ρ.set i (some (.ow, d))) b → Own σ ρ b ∨ b = a := fun b ⟨j, fl, e, h1, h2, h3⟩ => by
    rcases back j fl e h1 with ⟨_, _, _, q⟩ | ⟨_, q1, q2⟩
    · rw [q] at h3; cases h3; exact .inr rfl
    · exact .inl ⟨j, fl, e, q1, h2, by rw [← q2]; exact h3⟩
  have av : ∀ b o, Av P T σ ρ b → H b = some o → Av P (fun b => T b ∧ b ≠ a) (σ.set i (some (.ref a))) (ρ.set i (some (.ow, d))) b ∧ H b = some o := fun b o ⟨h1, h2, h3⟩ e => by
    refine ⟨⟨h1, fun z => ?_, fun z => h3 z.1⟩, e⟩
    rcases ow b z with z | z
    · exact h2 z
    · subst z; exact h3 ta
  refine ⟨⟨by rw [List.length_set, List.length_set]; exact S.len, fun j e h => ?_, fun j fl e h n => ?_, fun j k f1 f2 d1 d2 b h1 h2 h3 h4 h5 h6 => ?_, fun j e b h1 h2 => ?_, fun j e h => ?_, fun b q => ⟨(S.tn b q.1).1, fun z => ?_⟩, S.keep, S.dom, S.sB, fun b xs e => ⟨(S.tp b xs e).1, fun q => (S.tp b xs e).2 q.1⟩⟩, av, ow⟩
  · rcases back j .sh e h with ⟨_, q, _⟩ | ⟨_, q1, q2⟩
    · cases q
    · obtain ⟨w, k1, k2⟩ := S.sh j e q1
      exact ⟨w, by rw [q2]; exact k1, k2.mono av⟩
  · rcases back j fl e h with ⟨_, _, q, q'⟩ | ⟨_, q1, q2⟩
    · subst q
      exact ⟨a, _, q', ha, r.mono av⟩
    · obtain ⟨b, o', k2, k3, k4⟩ := S.ow j fl e q1 n
      exact ⟨b, o', by rw [q2]; exact k2, k3, k4.mono av⟩
  · have na : ∀ (j : Nat) (fl : Fl) (e : D), ρ[j]? = some (some (fl, e)) → fl ≠ .sh → σ[j]? ≠ some (some (V.ref a)) := fun j fl e q1 q2 q3 => (S.tn a ta).2 ⟨j, fl, e, q1, q2, q3⟩
    rcases back j f1 d1 h1 with ⟨z1, _, _, q⟩ | ⟨_, q1, q2⟩
    · rw [q] at h5; cases h5
      rcases back k f2 d2 h3 with ⟨z3, _⟩ | ⟨_, q3, q4⟩
      · rw [z1, z3]
      · exact absurd (by rw [← q4]; exact h6) (na k f2 d2 q3 h4)
    · rcases back k f2 d2 h3 with ⟨_, _, _, q⟩ | ⟨_, q3, q4⟩
      · rw [q] at h6; cases h6
        exact absurd (by rw [← q2]; exact h5) (na j f1 d1 q1 h2)
      · exact S.dj j k f1 f2 d1 d2 b q1 h2 q3 h4 (by rw [← q2]; exact h5) (by rw [← q4]; exact h6)
  · rcases back j .ow e h1 with ⟨_, _, _, q⟩ | ⟨_, q1, q2⟩
    · rw [q] at h2; cases h2; exact h0
    · exact S.new j e b q1 (by rw [← q2]; exact h2)
  · rcases back j .bx e h with ⟨_, q, _⟩ | ⟨_, q1, q2⟩
    · cases q
    · rw [q2]; exact S.bx j e q1
  · rcases ow b z with z | z
    · exact (S.tn b q.1).2 z
    · exact q.2 z
end
/-- values stored in slots, one after another -/
def storeA : List Nat → List RV → List D → En → Option En
  | [], [], _, ρ => some ρ
  | i :: is, r :: rs, d :: ds, ρ => storeA is rs ds (match r with
    | .fr _ => ρ.set i (some (.ow, d))
    | _ => ρ.set i (some (.sh, d)))
  | _, _, _, _ => none
def sets : List Nat → List V → SS → SS
  | i :: is, v :: vs, σ => sets is vs (σ.set i (some v))
  | _, _, σ => σ
/-- a value that waits to be stored -/
def Wait (P : Pk) (T : Addr → Prop) (σ : SS) (ρ : En) (H : Hp) (v : V) (d : D) : RV → Prop
  | .fr _ => ∃ a o, v = .ref a ∧ T a ∧ H a = some o ∧ P.H0 a = none ∧ OwnC (Av P T σ ρ) H o d
  | _ => Rep (Av P T σ ρ) H v d
inductive WaitA (P : Pk) (T : Addr → Prop) (σ : SS) (ρ : En) (H : Hp) : List V → List D → List RV → Prop
  | nil : WaitA P T σ ρ H [] [] []
  | cons {v : V} {vs : List V} {d : D} {ds : List D} {r : RV} {rs : List RV} : Wait P T σ ρ H v d r → WaitA P T σ ρ H vs ds rs → WaitA P T σ ρ H (v :: vs) (d :: ds) (r :: rs)
section
variable {P : Pk} {T T2 : Addr → Prop} {σ σ' : SS} {ρ ρ' : En} {H H' : Hp}
theorem Wait.to {v : V} {d : D} {r : RV} (w : Wait P T σ ρ H v d r) (av : ∀ b o, Av P T σ ρ b → H b = some o → Av P T2 σ' ρ' b ∧ H b = some o) (ht : ∀ a d', r = .fr d' → v = .ref a → T a → T2 a) : Wait P T2 σ' ρ' H v d r := by
  cases r with
  | sh e => exact Rep.mono w av
  | al i => exact Rep.mono w av
  | fr e =>
    obtain ⟨a, o, e1, ta, ha, h0, hr⟩ := w
    exact ⟨a, o, e1, ht a e rfl e1 ta, ha, h0, hr.mono av⟩
theorem WaitA.to (av : ∀ b o, Av P T σ ρ b → H b = some o → Av P T2 σ' ρ' b ∧ H b = some o) : ∀ {vs : List V} {ds : List D} {rs : List RV}, WaitA P T σ ρ H vs ds rs → (∀ (i : Nat) (a : Addr) (d' : D), rs[i]? = some (RV.fr d') → vs[i]? = some (V.ref a) → T a → T2 a) → WaitA P T2 σ' ρ' H vs ds rs
  | _, _, _, .nil, _ => .nil
  | _, _, _, .cons w ws, ht => .cons (w.to av fun a d' e1 e2 ta => ht 0 a d' (by simp [e1]) (by simp [e2]) ta) (WaitA.to av ws fun i a d' e1 e2 ta => ht (i + 1) a d' (by simpa using e1) (by simpa using e2) ta)
theorem wait_of : ∀ {vs : List V} {rs : List RV} {ds : List D} {ρ1 : En}, ValA P T σ ρ1 H vs rs → Sim P T σ ρ1 H → datA ρ1 rs = some ds → relA ρ1 rs = some ρ' → WaitA P T σ ρ' H vs ds rs
  | [], [], ds, ρ1, _, _, hd, _ => by cases hd; exact .nil
  | [], _ :: _, _, _, h, _, _, _ => h.elim
  | _ :: _, [], _, _, h, _, _, _ => h.elim
  | v :: vs, r :: rs, ds, ρ1, h, S, hd, hr => by
    unfold datA at hd
    cases e1 : dat ρ1 r with
    | none => rw [e1] at hd; cases hd
    | some d =>
      cases e2 : datA ρ1 rs with
      | none => rw [e1, e2] at hd; cases hd
      | some es =>
        rw [e1, e2] at hd
        cases hd
        unfold relA at hr
        cases e3 : rel ρ1 r with
        | none => rw [e3] at hr; cases hr
        | some ρ2 =>
          rw [e3] at hr
          have hr : relA ρ2 rs = some ρ' := hr
          obtain ⟨st1, kp1⟩ := rel_stp (σ := σ) (H := H) e3
          have S1 := S.rel e3
          have h2 : ValA P T σ ρ2 H vs rs := h.2.step S st1 kp1 .refl
          have tail := wait_of h2 S1 (by rw [datA_rel e3]; exact e2) hr
          have w1 : Wait P T σ ρ2 H v d r := by
            cases r with
            | sh e => cases e3; cases e1; exact h.1
            | fr e => cases e3; cases e1; exact h.1
            | al i => exact h.1.toSh (T0 := T) S e3 e1 (fun _ z => z) fun _ _ q => nomatch q
          -- the rest of the letting go
          have st2 : Stp σ ρ2 H σ ρ' H := relA_stp hr
          have av : ∀ b o, Av P T σ ρ2 b → H b = some o → Av P T σ ρ' b ∧ H b = some o := fun b o q e => by
            refine ⟨⟨q.1, fun z => ?_, q.2.2⟩, e⟩
            rcases st2.os b z with z | z
            · exact q.2.1 z
            · rw [e] at z; cases z
          exact .cons (w1.to av fun a d' _ _ z => z) tail
where
  relA_stp : ∀ {rs : List RV} {ρ ρ' : En}, relA ρ rs = some ρ' → Stp σ ρ H σ ρ' H
    | [], ρ, ρ', h => by cases h; exact .refl
    | r :: rs, ρ, ρ', h => by
      unfold relA at h
      cases e : rel ρ r with
      | none => rw [e] at h; cases h
      | some ρ1 =>
        rw [e] at h
        exact (rel_stp (σ := σ) (H := H) e).1.trans (relA_stp h)
/-- T0: what was temporary ahead -/
theorem storeA_spec {T0 : Addr → Prop} : ∀ {is : List Nat} {vs : List V} {ds : List D} {rs : List RV} {σ : SS} {ρ : En} {T : Addr → Prop}, Sim P T σ ρ H → WaitA P T σ ρ H vs ds rs → (∀ b, T0 b → T b) → (∀ (i : Nat) (d : D) (a : Addr), rs[i]? = some (RV.fr d) → vs[i]? = some (V.ref a) → ¬ T0 a) →
    TxA H0 vs rs → storeA is rs ds ρ = some ρ' → Sim P T0 (sets is vs σ) ρ' H ∧ (∀ b, Own (sets is vs σ) ρ' b → Own σ ρ b ∨ ∃ (i : Nat) (d : D), rs[i]? = some (RV.fr d) ∧ vs[i]? = some (V.ref b))
  | [], _, _, _, σ, ρ, T, S, .nil, h0, hf, _, h => by cases h; exact ⟨S.less h0, fun b q => .inl q⟩
  | [], _, _, _, _, _, _, _, .cons _ _, _, _, _, h => by simp [storeA] at h
  | i :: is, _, _, _, _, _, _, _, .nil, _, _, _, h => by simp [storeA] at h
  | i :: is, v :: vs, d :: ds, r :: rs, σ, ρ, T, S, .cons w ws, h0, hf, tx, h => by
    have hf' : ∀ (i : Nat) (d : D) (a : Addr), rs[i]? = some (RV.fr d) → vs[i]? = some (V.ref a) → ¬ T0 a := fun k e a q1 q2 => hf (k + 1) e a (by simpa using q1) (by simpa using q2)
    by_cases hr : ∃ e, r = .fr e
    · obtain ⟨e, rfl⟩ := hr
      obtain ⟨a, o, e1, ta, ha, hn, hre⟩ := w
      subst e1
      have h : storeA is rs ds (ρ.set i (some (.ow, d))) = some ρ' := h
      obtain ⟨S1, av, ow⟩ := S.setOw (i := i) ta ha hn hre
      obtain ⟨S2, o2⟩ := storeA_spec S1 (WaitA.to av ws fun k b d' q1 q2 tb => ⟨tb, fun z => by
        subst z
        obtain ⟨a', ea, _, hno⟩ := tx.1 e rfl
        cases ea
        exact hno k d' q1 q2⟩) (fun b q => ⟨h0 b q, fun z => by subst z; exact hf 0 e b rfl rfl q⟩) hf' tx.2 h
      refine ⟨S2, fun b q => ?_⟩
      rcases o2 b q with q | ⟨k, d', q1, q2⟩
      · rcases ow b q with q | rfl
        · exact .inl q
        · exact .inr ⟨0, e, rfl, rfl⟩
      · exact .inr ⟨k + 1, d', by simpa using q1, by simpa using q2⟩
    · have w' : Rep (Av P T σ ρ) H v d := by
        cases r with
        | sh e => exact w
        | al k => exact w
        | fr e => exact absurd ⟨e, rfl⟩ hr
      have h : storeA is rs ds (ρ.set i (some (.sh, d))) = some ρ' := by
        cases r with
        | sh e => exact h
        | al k => exact h
        | fr e => exact absurd ⟨e, rfl⟩ hr
      obtain ⟨S1, st1⟩ := S.setSh (i := i) w'
      obtain ⟨S2, o2⟩ := storeA_spec S1 (WaitA.to (av_step st1 .refl) ws fun k b d' q1 q2 tb => tb) h0 hf' tx.2 h
      refine ⟨S2, fun b q => ?_⟩
      rcases o2 b q with q | ⟨k, d', q1, q2⟩
      · rcases st1.os b q with q | q
        · exact .inl q
        · obtain ⟨o, e⟩ := own_dom S1 ‹_›
          rw [q] at e; cases e
      · exact .inr ⟨k + 1, d', by simpa using q1, by simpa using q2⟩
/-- behind several values: they are stored -/
theorem store_fin {is : List Nat} {rs : List RV} {ρ1 ρ2 ρ3 : En} {vs : List V} {ds : List D} {H1 : Hp} {T1 : Addr → Prop} (S : Sim P T σ ρ H) (A : AftA P T σ ρ H rs ρ1 vs H1 T1) (hd : datA ρ1 rs = some ds) (hr : relA ρ1 rs = some ρ2) (hs : storeA is rs ds ρ2 = some ρ3) :
    Sim P T (sets is vs σ) ρ3 H1 ∧ Stp σ ρ H (sets is vs σ) ρ3 H1 := by
  have tx := tx_not A S
  obtain ⟨S2, st2, kp2, _⟩ := relA_spec A.sim A.val A.tg.1 tx hd hr
  obtain ⟨S3, o3⟩ := storeA_spec S2 (wait_of A.val A.sim hd hr) A.tg.1 tx A.tx hs
  have st := A.stp.trans st2
  refine ⟨S3, st.fr, fun b q => ?_, st.dm⟩
  rcases o3 b q with q | ⟨i, d, q1, q2⟩
  · exact st.os b q
  · exact .inr (TxA.get A.tx q1 q2)
end
end DL
set_option Elab.async false
set_option linter.all false
set_option maxRecDepth 100000
set_option maxHeartbeats 2000000
namespace DL
open PySem PySem.Spec PyProof.Rows L2
inductive Out where
  | nx (ρ : En) | rt (r : RV) (ρ : En) | bk (ρ : En) | ct (ρ : En)
abbrev Fst := En → Option Out
def OutOk (P : Pk) (T : Addr → Prop) (σ : SS) (ρ : En) (H : Hp) (Ds : Ends) : Out → Prop
  | .nx ρ' => ∀ σ' H', Sim P T σ' ρ' H' → Stp σ ρ H σ' ρ' H' → Ds.nx σ' H'
  | .bk ρ' => ∀ σ' H', Sim P T σ' ρ' H' → Stp σ ρ H σ' ρ' H' → Ds.bk σ' H'
  | .ct ρ' => ∀ σ' H', Sim P T σ' ρ' H' → Stp σ ρ H σ' ρ' H' → Ds.ct σ' H'
  | .rt r ρ' => ∀ v σ' H' T', Sim P T' σ' ρ' H' → Stp σ ρ H σ' ρ' H' → Tx T H v T' r → Val P T' σ' ρ' H' v r → Ds.rt v H'
def DS (X : Cx) (st : Stmt) (f : Fst) : Prop := ∀ P T σ ρ H o, Sim P T σ ρ H → f ρ = some o → ∀ Ds : Ends, OutOk P T σ ρ H Ds o → WS X st Ds σ H
def DSs (X : Cx) (st : List Stmt) (f : Fst) : Prop := ∀ P T σ ρ H o, Sim P T σ ρ H → f ρ = some o → ∀ Ds : Ends, OutOk P T σ ρ H Ds o → WSs X st Ds σ H
theorem OutOk.back {P T σ σ1 ρ ρ1 H H1 Ds} {o : Out} (st : Stp σ ρ H σ1 ρ1 H1) (h : OutOk P T σ ρ H Ds o) : OutOk P T σ1 ρ1 H1 Ds o := by
  cases o with
  | nx ρ' => exact fun σ' H' S st' => h σ' H' S (st.trans st')
  | bk ρ' => exact fun σ' H' S st' => h σ' H' S (st.trans st')
  | ct ρ' => exact fun σ' H' S st' => h σ' H' S (st.trans st')
  | rt r ρ' => exact fun v σ' H' T' S st' tx V0 => h v σ' H' T' S (st.trans st') (tx_back st.dm tx) V0
def fseq (f g : Fst) : Fst := fun ρ => (f ρ).bind fun o => match o with
  | .nx ρ1 => g ρ1
  | o => some o
def fskip : Fst := fun ρ => some (.nx ρ)
def fdrop (f : Fe) : Fst := fun ρ => (f ρ).map fun x => .nx x.2
def fret (f : Fe) : Fst := fun ρ => (f ρ).map fun x => .rt x.1 x.2
def fifS (c : Ft) (f g : Fst) : Fst := fun ρ => (c ρ).bind fun x => if x.1 then f x.2 else g x.2
def fset (is : List Nat) (fs : Fa) : Fst := fun ρ => (fs ρ).bind fun x => (datA x.2 x.1).bind fun ds => (relA x.2 x.1).bind fun ρ2 => (storeA is x.1 ds ρ2).map .nx
def f1 (f : Fe) : Fa := fun ρ => (f ρ).map fun x => ([x.1], x.2)
/-- code that is never reached -/
def fnever : Fst := fun _ => none
section
variable {X : Cx} {st : Stmt} {rest : List Stmt} {f g : Fst} {c : Ft} {fe : Fe} {fs : Fa} {e : Expr} {pos : Pos}
theorem dss_nil : DSs X [] fskip := fun P T σ ρ H o S hf Ds q => by
  cases hf
  exact PSs.wss pss_nil (q σ H S .refl)
theorem dss_cons (h1 : DS X st f) (h2 : DSs X rest g) : DSs X (st :: rest) (fseq f g) := fun P T σ ρ H o S hf Ds q => by
  simp only [fseq, Option.bind_eq_some_iff] at hf
  obtain ⟨o1, e1, e2⟩ := hf
  refine PSs.wss (pss_cons psW pssW) (h1 P T σ ρ H o1 S e1 _ ?_)
  cases o1 with
  | nx ρ1 => exact fun σ1 H1 S1 st1 => h2 P T σ1 ρ1 H1 o S1 e2 Ds (q.back st1)
  | bk ρ1 => cases e2; exact q
  | ct ρ1 => cases e2; exact q
  | rt r ρ1 => cases e2; exact q
theorem dss_one (h1 : DS X st f) : DSs X [st] f := fun P T σ ρ H o S hf Ds q => PSs.wss (pss_one psW) (h1 P T σ ρ H o S hf Ds q)
theorem dss_never {sts : List Stmt} : DSs X sts fnever := fun P T σ ρ H o S hf Ds q => by cases hf
theorem ds_expr (he : DE X e fe) (hs : swapsWith e none pos.line X.env = pure false := by rfl) : DS X (.Expr e pos) (fdrop fe) := fun P T σ ρ H o S hf Ds q => by
  simp only [fdrop, Option.map_eq_some_iff] at hf
  obtain ⟨⟨r, ρ1⟩, e1, e2⟩ := hf
  cases e2
  exact PS.ws (ps_expr peW hs) (he P T σ ρ H r ρ1 S e1 _ fun v H1 T1 A => q σ H1 (A.sim.less A.tx.tg.1) A.stp)
theorem ds_ret (he : DE X e fe) : DS X (.Return (some e) pos) (fret fe) := fun P T σ ρ H o S hf Ds q => by
  simp only [fret, Option.map_eq_some_iff] at hf
  obtain ⟨⟨r, ρ1⟩, e1, e2⟩ := hf
  cases e2
  exact PS.ws (ps_ret peW) (he P T σ ρ H r ρ1 S e1 _ fun v H1 T1 A => q v σ H1 T1 A.sim A.stp A.tx A.val)
theorem ds_if {t : Expr} {p1 p2 : List Stmt} (hc : DT X t c) (ha : DSs X p1 f) (hb : DSs X p2 g) : DS X (.If t p1 p2 pos) (fifS c f g) := fun P T σ ρ H o S hf Ds q => by
  simp only [fifS, Option.bind_eq_some_iff] at hf
  obtain ⟨⟨b, ρ1⟩, e1, e2⟩ := hf
  refine PS.ws (ps_if ptW pssW pssW) (hc P T σ ρ H b ρ1 S e1 _ fun H1 S1 st1 kp1 => ?_)
  cases b with
  | true => exact ha P T σ ρ1 H1 o S1 e2 Ds (q.back st1)
  | false => exact hb P T σ ρ1 H1 o S1 e2 Ds (q.back st1)
theorem da_one (he : DE X e fe) {P T σ ρ H rs ρ'} (S : Sim P T σ ρ H) (hf : f1 fe ρ = some (rs, ρ')) {Q : V → Hp → Prop} (q : ∀ v H' T', AftA P T σ ρ H rs ρ' [v] H' T' → Q v H') : WE X e σ H Q := by
  simp only [f1, Option.map_eq_some_iff] at hf
  obtain ⟨⟨r, ρ1⟩, e1, e2⟩ := hf
  cases e2
  refine he P T σ ρ H r _ S e1 _ fun v H1 T1 A => q v H1 T1 ⟨A.sim, A.stp, A.kp, A.tx.tg, ⟨fun d e => ?_, trivial⟩, ⟨A.val, trivial⟩⟩
  subst e
  obtain ⟨a, z1, z2, _⟩ := A.tx
  exact ⟨a, z1, z2, fun i d' z => by simp at z⟩
theorem ds_set {i : Nat} {x : Str} {pos' : Pos} (hN : X.N.Nodup) (he : DE X e fe) (hi : X.N[i]? = some x := by rfl) (hx : Loc X.env.scope x := by first | exact Or.inl rfl | exact Or.inr rfl) (hs : swapsWith e (some (.Name x pos')) pos.line X.env = pure false := by rfl) (hf : X.fn x = true ∨ X.env.scope.names.lookup x = some .local := by first | exact .inl rfl | exact .inr rfl | assumption) :
    DS X (.Assign [.Name x pos'] e pos) (fset [i] (f1 fe)) := fun P T σ ρ H o S hf' Ds q => by
  simp only [fset, Option.bind_eq_some_iff, Option.map_eq_some_iff] at hf'
  obtain ⟨⟨rs, ρ1⟩, e1, ds, e2, ρ2, e3, ρ3, e4, e5⟩ := hf'
  cases e5
  refine PS.ws (ps_set hN hi hx peW hs hf) (da_one he S e1 fun v H1 T1 A => ?_)
  obtain ⟨S3, st3⟩ := store_fin S A e2 e3 e4
  exact q (σ.set i (some v)) H1 S3 st3
/-- a, b = e1, e2 with plain local names -/
theorem ds_par {i j : Nat} {x y : Str} {a b : Expr} {px py pt : Pos} {kt k2 pt2} (hc : X.calm = true) (hN : X.N.Nodup) (ha : DA X [a, b] fs) (hi : X.N[i]? = some x := by rfl) (hj : X.N[j]? = some y := by rfl) (hij : i ≠ j := by decide)
    (hx : X.env.scope.names.lookup x = some .local := by rfl) (hy : X.env.scope.names.lookup y = some .local := by rfl)
    (hw : swappedStores [.Tuple [.Name x px, .Name y py] kt pt] (.Tuple [a, b] k2 pt2) X.env = pure (some [x, y]) := by rfl)
    (hs : swapsWithSole [.Tuple [.Name x px, .Name y py] kt pt] (.Tuple [a, b] k2 pt2) pos.line X.env = pure false := by rfl) :
    DS X (.Assign [.Tuple [.Name x px, .Name y py] kt pt] (.Tuple [a, b] k2 pt2) pos) (fset [i, j] fs) := fun P T σ ρ H o S hf' Ds q => by
  simp only [fset, Option.bind_eq_some_iff, Option.map_eq_some_iff] at hf'
  obtain ⟨⟨rs, ρ1⟩, e1, ds, e2, ρ2, e3, ρ3, e4, e5⟩ := hf'
  cases e5
  refine PS.ws (ps_par hc hN hi hj hij hx hy paW hw hs) (ha P T σ ρ H rs ρ1 S e1 _ fun vs H1 T1 hl A => ?_)
  obtain ⟨S3, st3⟩ := store_fin S A e2 e3 e4
  match vs, hl with
  | [v, w], _ => exact ⟨v, w, rfl, q _ H1 S3 st3⟩
theorem ds_par3 {i j l : Nat} {x y z : Str} {a b c : Expr} {px py pz pt : Pos} {kt k2 pt2} (hc : X.calm = true) (hN : X.N.Nodup) (ha : DA X [a, b, c] fs) (hi : X.N[i]? = some x := by rfl) (hj : X.N[j]? = some y := by rfl) (hl : X.N[l]? = some z := by rfl) (hij : i ≠ j := by decide) (hil : i ≠ l := by decide) (hjl : j ≠ l := by decide)
    (hx : X.env.scope.names.lookup x = some .local := by rfl) (hy : X.env.scope.names.lookup y = some .local := by rfl) (hz : X.env.scope.names.lookup z = some .local := by rfl)
    (hw : swappedStores [.Tuple [.Name x px, .Name y py, .Name z pz] kt pt] (.Tuple [a, b, c] k2 pt2) X.env = pure (some [x, y, z]) := by rfl)
    (hs : swapsWithSole [.Tuple [.Name x px, .Name y py, .Name z pz] kt pt] (.Tuple [a, b, c] k2 pt2) pos.line X.env = pure false := by rfl) :
    DS X (.Assign [.Tuple [.Name x px, .Name y py, .Name z pz] kt pt] (.Tuple [a, b, c] k2 pt2) pos) (fset [i, j, l] fs) := fun P T σ ρ H o S hf' Ds q => by
  simp only [fset, Option.bind_eq_some_iff, Option.map_eq_some_iff] at hf'
  obtain ⟨⟨rs, ρ1⟩, e1, ds, e2, ρ2, e3, ρ3, e4, e5⟩ := hf'
  cases e5
  refine PS.ws (ps_par3 hc hN hi hj hl hij hil hjl hx hy hz paW hw hs) (ha P T σ ρ H rs ρ1 S e1 _ fun vs H1 T1 hl A => ?_)
  obtain ⟨S3, st3⟩ := store_fin S A e2 e3 e4
  match vs, hl with
  | [v, w, u], _ => exact ⟨v, w, u, rfl, q _ H1 S3 st3⟩
end
def WG (X : Cx) (tg : Expr) (v : V) (σ : SS) (H : Hp) (Q : SS → Hp → Prop) : Prop :=
  ∀ (pins : List (Addr × Obj)) (s : Shared) (u : Value), Inv X pins σ H s → RelV v u → wpAny (model X.prog X.w) X.A (assign tg X.env u) (fun _ s' => ∃ σ' H', Inv X pins σ' H' s' ∧ Q σ' H') X.xe s
def WGs (X : Cx) (ts : List Expr) (vs : List V) (σ : SS) (H : Hp) (Q : SS → Hp → Prop) : Prop :=
  ∀ (pins : List (Addr × Obj)) (s : Shared) (us : List Value), Inv X pins σ H s → Vals vs us → wpAny (model X.prog X.w) X.A (assignInOrder ((assignEach ts X.env).map (·.2)) us) (fun _ s' => ∃ σ' H', Inv X pins σ' H' s' ∧ Q σ' H') X.xe s
theorem pgW {X : Cx} {tg : Expr} : PG X tg (WG X tg) := ⟨fun pins s σ H v u Q I r h => h pins s u I r⟩
theorem pgsW {X : Cx} {ts : List Expr} : PGs X ts (WGs X ts) := ⟨fun pins s σ H vs us Q I r h => h pins s us I r⟩
theorem PG.wg {X : Cx} {tg : Expr} {t : TG} {v σ H Q} (h : PG X tg t) (q : t v σ H Q) : WG X tg v σ H Q := fun pins s u I r => h.run pins s σ H v u Q I r q
theorem PGs.wg {X : Cx} {tg : List Expr} {t : TGs} {v σ H Q} (h : PGs X tg t) (q : t v σ H Q) : WGs X tg v σ H Q := fun pins s u I r => h.run pins s σ H v u Q I r q
abbrev Fg := D → En → Option En
abbrev Fgs := List D → En → Option En
/-- only these slots are stored -/
def Ch (is : List Nat) (σ : SS) (ρ : En) (σ' : SS) (ρ' : En) : Prop := σ'.length = σ.length ∧ (∀ j, j ∉ is → σ'[j]? = σ[j]?) ∧ Kp ρ ρ'
/-- is: the slots that are stored -/
def DG (X : Cx) (tg : Expr) (is : List Nat) (b : Fg) : Prop :=
  ∀ P T σ ρ H v d ρ', Sim P T σ ρ H → Rep (Av P T σ ρ) H v d → b d ρ = some ρ' → ∀ Q : SS → Hp → Prop, (∀ σ' H', Sim P T σ' ρ' H' → Stp σ ρ H σ' ρ' H' → Ch is σ ρ σ' ρ' → Q σ' H') → WG X tg v σ H Q
def DGs (X : Cx) (tg : List Expr) (is : List Nat) (b : Fgs) : Prop :=
  ∀ P T σ ρ H vs ds ρ', Sim P T σ ρ H → RepA (Av P T σ ρ) H vs ds → b ds ρ = some ρ' → ∀ Q : SS → Hp → Prop, (∀ σ' H', Sim P T σ' ρ' H' → Stp σ ρ H σ' ρ' H' → Ch is σ ρ σ' ρ' → Q σ' H') → WGs X tg vs σ H Q
def bname (i : Nat) : Fg := fun d ρ => some (ρ.set i (some (.sh, d)))
def bnil : Fgs := fun ds ρ => match ds with
  | [] => some ρ
  | _ => none
def bcons (b : Fg) (bs : Fgs) : Fgs := fun ds ρ => match ds with
  | d :: ds => (b d ρ).bind fun ρ1 => bs ds ρ1
  | [] => none
def btup (n : Nat) (bs : Fgs) : Fg := fun d ρ => match d with
  | .tuple ds => if ds.length = n then bs ds ρ else none
  | .list ds => if ds.length = n then bs ds ρ else none
  | _ => none
/-- xs[i] = v, xs an owned list -/
def bsub1 (j : Nat) (fi : Fe) : Fg := fun d ρ => (fi ρ).bind fun x => (dat x.2 x.1).bind fun di => match di, x.2[j]? with
  | .int k, some (some (fl, .list es)) => if fl = .sh then none else (ixN es.length k).map fun n => x.2.set j (some (fl, .list (es.set n d)))
  | _, _ => none
def bsub (j : Nat) (fi : Fe) : Fg := fun d ρ => match ρ[j]? with
  | some (some (.sh, _)) => none
  | some (some _) => bsub1 j fi d ρ
  | _ => none
theorem bsub_in {j : Nat} {fi : Fe} {d : D} {ρ ρ' : En} (hf : bsub j fi d ρ = some ρ') : (∃ fl d, ρ[j]? = some (some (fl, d)) ∧ fl ≠ Fl.sh) ∧ bsub1 j fi d ρ = some ρ' := by
  unfold bsub at hf
  cases e1 : ρ[j]? with
  | none => rw [e1] at hf; cases hf
  | some x =>
    cases x with
    | none => rw [e1] at hf; cases hf
    | some y =>
      obtain ⟨fl, d⟩ := y
      cases fl with
      | sh => rw [e1] at hf; cases hf
      | ow => rw [e1] at hf; exact ⟨⟨_, _, rfl, by decide⟩, hf⟩
      | bx => rw [e1] at hf; exact ⟨⟨_, _, rfl, by decide⟩, hf⟩
section
variable {X : Cx} {tg e : Expr} {es : List Expr} {is js : List Nat} {b : Fg} {bs : Fgs} {fe : Fe} {pos : Pos}
theorem dg_name {i : Nat} {x : Str} (hN : X.N.Nodup) (hi : X.N[i]? = some x := by rfl) (hx : Loc X.env.scope x := by first | exact Or.inl rfl | exact Or.inr rfl) (hf : X.fn x = true ∨ X.env.scope.names.lookup x = some .local := by first | exact .inl rfl | exact .inr rfl | assumption) : DG X (.Name x pos) [i] (bname i) := by
  intro P T σ ρ H v d ρ' S r hb Q q
  cases hb
  obtain ⟨S1, st1⟩ := S.setSh (i := i) r
  exact PG.wg (pg_name hN hi hx hf) (q _ H S1 st1 ⟨by rw [List.length_set], fun j hj => List.getElem?_set_ne (fun z => hj (by simp [z])), kp_set⟩)
theorem dgs_nil : DGs X [] [] bnil := by
  intro P T σ ρ H vs ds ρ' S r hb Q q
  cases ds with
  | nil => cases hb; cases r; exact PGs.wg pgs_nil ⟨rfl, q σ H S .refl ⟨rfl, fun _ _ => rfl, .refl⟩⟩
  | cons d ds => cases hb
theorem dgs_cons (h1 : DG X e is b) (h2 : DGs X es js bs) (hs : (assignEach (e :: es) X.env).map (·.2) = assign e X.env :: (assignEach es X.env).map (·.2) := by rfl) : DGs X (e :: es) (is ++ js) (bcons b bs) := by
  intro P T σ ρ H vs ds ρ' S r hb Q q
  cases ds with
  | nil => cases hb
  | cons d ds =>
    cases r with
    | cons r1 r2 =>
      have hb : (b d ρ).bind (fun ρ1 => bs ds ρ1) = some ρ' := hb
      simp only [Option.bind_eq_some_iff] at hb
      obtain ⟨ρ1, e1, e2⟩ := hb
      refine PGs.wg (pgs_cons pgW pgsW hs) ⟨_, _, rfl, h1 P T σ ρ H _ d ρ1 S r1 e1 _ fun σ1 H1 S1 st1 k1 => ?_⟩
      exact h2 P T σ1 ρ1 H1 _ ds ρ' S1 (r2.mono (av_step st1 .refl)) e2 _ fun σ2 H2 S2 st2 k2 => q σ2 H2 S2 (st1.trans st2) ⟨k2.1.trans k1.1, fun j hj => by
        rw [k2.2.1 j fun z => hj (List.mem_append_right _ z), k1.2.1 j fun z => hj (List.mem_append_left _ z)], k1.2.2.trans k2.2.2⟩
theorem dg_tup {k n : Nat} (hc : X.calm = true) (h : DGs X es is bs) (hn : (assignEach es X.env).length = n := by rfl) (hst : (assignEach es X.env).findIdx? (·.1) = none := by rfl) : DG X (.Tuple es k pos) is (btup n bs) := by
  intro P T σ ρ H v d ρ' S r hb Q q
  cases r with
  | tup hs hr ha =>
    rename_i a xs ds
    have hb : (if ds.length = n then bs ds ρ else none) = some ρ' := hb
    by_cases hl : ds.length = n
    · rw [if_pos hl] at hb
      exact PG.wg (pg_tup hc pgsW hn hst) ⟨a, xs, rfl, .inl (.inl hr), by rw [ha.length]; exact hl, h P T σ ρ H xs ds ρ' S ha hb Q q⟩
    · rw [if_neg hl] at hb; cases hb
  | lst hs hr ha =>
    rename_i a xs ds
    have hb : (if ds.length = n then bs ds ρ else none) = some ρ' := hb
    by_cases hl : ds.length = n
    · rw [if_pos hl] at hb
      exact PG.wg (pg_unl hc pgsW hn hst) ⟨a, xs, rfl, .inl hr, by rw [ha.length]; exact hl, h P T σ ρ H xs ds ρ' S ha hb Q q⟩
    · rw [if_neg hl] at hb; cases hb
  | non => cases hb
  | bl b => cases hb
  | int i => cases hb
  | dct => cases hb
  | exc => cases hb
  | set => cases hb
  | str x => cases hb
theorem dg_sub {j : Nat} {x : Str} {i : Expr} {ppos : Pos} (hi : DE X i fe) (hN : X.N[j]? = some x := by rfl) (hv : Vis X.env.scope x := by first | exact Or.inl rfl | exact Or.inr (Or.inl rfl) | exact Or.inr (Or.inr rfl)) (hd : (x == ("__debug__" : Str)) = false := by decide) (hcd : (x == ("__classdict__" : Str)) = false := by decide)
    (ha : ∀ v, assign (.Subscript (.Name x ppos) i pos) X.env v = (do
      let ov ← holding [v] (eval (.Name x ppos) X.env)
      let iv ← holding [v, ov] (eval i X.env)
      standAt pos
      holding [v, ov, iv] (setItem ov iv v)
      release [v, ov, iv] []) := by intro _; rfl) : DG X (.Subscript (.Name x ppos) i pos) [] (bsub j fe) := by
  intro P T σ ρ H v d ρ' S r hb Q q
  obtain ⟨⟨f0, d0, k1, k2⟩, hb⟩ := bsub_in hb
  obtain ⟨a, o0, q2, q3, q4⟩ := S.ow j f0 d0 k1 k2
  simp only [bsub1, Option.bind_eq_some_iff] at hb
  obtain ⟨⟨ri, ρ1⟩, e1, di, e2, e3⟩ := hb
  cases di with
  | int k =>
    cases e4 : ρ1[j]? with
    | none => simp only [e4] at e3; cases e3
    | some y =>
      cases y with
      | none => simp only [e4] at e3; cases e3
      | some z =>
        obtain ⟨fl, dl⟩ := z
        cases dl with
        | list es =>
          simp only [e4] at e3
          by_cases hfl : fl = .sh
          · rw [if_pos hfl] at e3; cases e3
          · rw [if_neg hfl] at e3
            simp only [Option.map_eq_some_iff] at e3
            obtain ⟨n, e5, e6⟩ := e3
            cases e6
            refine PG.wg (pg_sub (pe_var hN hv hd hcd) peW set_list ha) ⟨_, q2, hi P T σ ρ H ri ρ1 S e1 _ fun w H1 T1 A => ?_⟩
            have S1 := A.sim.less A.tx.tg.1
            obtain ⟨a', xs, z2, z3, z4⟩ := S1.owL j fl _ e4 hfl
            rw [q2] at z2; cases z2
            have ew : w = .int k := by
              have := A.val.top A.sim e2
              cases (show Rep _ _ _ _ from this)
              rfl
            have r1 : Rep (Av P T σ ρ1) H1 v d := r.mono (av_step A.stp .refl)
            have na : ∀ b, Av P T σ ρ1 b → b ≠ a := fun b hb z => hb.2.1 (by rw [z]; exact ⟨j, fl, _, e4, hfl, q2⟩)
            have kp : ∀ b u, b ≠ a → H1 b = some u → (upd H1 a (.lst (xs.set n v))) b = some u := fun b u hb e => by rw [upd_ne hb]; exact e
            obtain ⟨S4, st4⟩ := S1.mut (H' := upd H1 a (.lst (xs.set n v))) (es := es.set n d) e4 hfl q2 kp upd_same ((RepA.set r1 n z4).mono fun b u hb e => ⟨hb, kp b u (na b hb) e⟩)
            exact ⟨a, xs, k, n, rfl, ew, z3, by rw [z4.length]; exact e5, q σ _ S4 (A.stp.trans st4) ⟨rfl, fun _ _ => rfl, A.kp.trans kp_set⟩⟩
        | _ => simp only [e4] at e3; cases e3
  | _ => simp only at e3; cases e3
/-- target = value, the value shared -/
def fasg (b : Fg) (f : Fe) : Fst := fun ρ => (f ρ).bind fun x => (dat x.2 x.1).bind fun d => (rel x.2 x.1).bind fun ρ2 => (b d ρ2).map .nx
theorem tx_not1 {P T σ ρ H r ρ' v H' T'} (A : Aft P T σ ρ H r ρ' v H' T') (S : Sim P T σ ρ H) : ∀ d a, r = .fr d → v = .ref a → ¬ T a := fun d a e1 e2 q => by
  subst e1
  obtain ⟨a', z1, z2, _⟩ := A.tx
  rw [e2] at z1; cases z1
  obtain ⟨⟨o, e⟩, _⟩ := S.tn a q
  rw [z2] at e; cases e
theorem ds_asg (he : DE X e fe) (hg : DG X tg is b) (hs : swapsWithSole [tg] e pos.line X.env = pure false := by rfl) (hw : swappedStores [tg] e X.env = pure none := by rfl)
    (h1 : (assignEach [tg] X.env).map (·.2) = [assign tg X.env] := by rfl) : DS X (.Assign [tg] e pos) (fasg b fe) := fun P T σ ρ H o S hf Ds q => by
  simp only [fasg, Option.bind_eq_some_iff, Option.map_eq_some_iff] at hf
  obtain ⟨⟨r, ρ1⟩, e1, d, e2, ρ2, e3, ρ3, e4, e5⟩ := hf
  cases e5
  refine PS.ws (ps_asg peW pgW hs hw h1) (he P T σ ρ H r ρ1 S e1 _ fun v H1 T1 A => ?_)
  obtain ⟨st2, kp2⟩ := rel_stp (σ := σ) (H := H1) e3
  have S2 := (A.sim.rel e3).less A.tx.tg.1
  exact hg P T σ ρ2 H1 v d ρ3 S2 (A.val.toSh A.sim e3 e2 A.tx.tg.1 (tx_not1 A S)) e4 _ fun σ' H' S' st' _ => q σ' H' S' ((A.stp.trans st2).trans st')
end
end DL
set_option Elab.async false
set_option linter.all false
set_option maxRecDepth 100000
set_option maxHeartbeats 2000000
namespace DL
open PySem PySem.Spec PyProof.Rows L2
def WI (X : Cx) (tg iter : Expr) (σ : SS) (H : Hp) (R : It → Hp → Prop) : Prop :=
  ∀ (pins : List (Addr × Obj)) (s : Shared), Inv X pins σ H s → wpAny (model X.prog X.w) X.A (eval iter X.env) (fun v s1 => wpAny (model X.prog X.w) X.A (pyIter v) (PIE X pins σ tg R) X.xe s1) X.xe s
theorem piW {X : Cx} {tg iter : Expr} : PI X tg iter (WI X tg iter) := ⟨fun pins s σ H R I h => h pins s I⟩
theorem PI.wi {X : Cx} {tg iter : Expr} {t : TI} {σ H R} (h : PI X tg iter t) (q : t σ H R) : WI X tg iter σ H R := fun pins s I => h.run pins s σ H R I q
structure Walk (P : Pk) (T : Addr → Prop) (σ : SS) (ρ : En) (H : Hp) (J : It) (items : List D) : Prop where
  go : ∀ i H', (∀ b o, H b = some o → ¬ Own σ ρ b → H' b = some o) → i < items.length → J.go i H'
  yld : ∀ i H', (∀ b o, H b = some o → ¬ Own σ ρ b → H' b = some o) → i < items.length → ∀ x H2, J.yld i H' x H2 → (∀ b o, H' b = some o → H2 b = some o) ∧ ∃ d, items[i]? = some d ∧ Rep (fun b => (Av P T σ ρ b ∧ ∃ o, H b = some o) ∨ H' b = none) H2 x d
  stop : ∀ H', (∀ b o, H b = some o → ¬ Own σ ρ b → H' b = some o) → J.stop items.length H'
abbrev Fi := En → Option (List D × En)
def DI (X : Cx) (tg iter : Expr) (g : Fi) : Prop :=
  ∀ P T σ ρ H items ρ', Sim P T σ ρ H → g ρ = some (items, ρ') → ∀ R : It → Hp → Prop, (∀ J H' T', Sim P T' σ ρ' H' → Stp σ ρ H σ ρ' H' → Kp ρ ρ' → Tg T H T' → Walk P T' σ ρ' H' J items → R J H') → WI X tg iter σ H R
section
variable {P : Pk} {T T' : Addr → Prop} {σ : SS} {ρ ρ' : En} {H H' : Hp} {v : V} {r : RV}
/-- a list or tuple that is let go of, kept as a temporary -/
theorem Val.held {d : D} (V0 : Val P T σ ρ H v r) (S : Sim P T σ ρ H) (h : rel ρ r = some ρ') (hd : dat ρ r = some d) :
    (∀ ds, d = .list ds → ∃ a xs, v = .ref a ∧ Rd H a (.lst xs) ∧ ¬ Own σ ρ' a ∧ RepA (Av P T σ ρ') H xs ds) ∧ (∀ ds, d = .tuple ds → ∃ a xs, v = .ref a ∧ Rd H a (.tup xs) ∧ ¬ Own σ ρ' a ∧ RepA (Av P T σ ρ') H xs ds) := by
  have st := (rel_stp (σ := σ) (H := H) h).1
  have nn : (¬ ∃ e, r = .fr e) → Rep (Av P T σ ρ') H v d := fun hn => V0.toSh S h hd (fun _ z => z) fun e a q _ => absurd ⟨e, q⟩ hn
  by_cases hf : ∃ e, r = .fr e
  · obtain ⟨e, rfl⟩ := hf
    cases h; cases hd
    obtain ⟨a, o, e1, ta, ha, hn, hr⟩ := V0
    subst e1
    refine ⟨fun ds' q => ?_, fun ds' q => ?_⟩
    · subst q
      cases hr with
      | lst hr => exact ⟨a, _, rfl, .inl ha, (S.tn a ta).2, hr⟩
    · subst q
      cases hr
  · have r1 := nn hf
    refine ⟨fun ds q => ?_, fun ds q => ?_⟩
    · subst q
      cases r1 with
      | lst hs hr ha => exact ⟨_, _, rfl, hr, hs.2.1, ha⟩
    · subst q
      cases r1 with
      | tup hs hr ha => exact ⟨_, _, rfl, .inl hr, hs.2.1, ha⟩
theorem rd_keep {a : Addr} {u : HO} (hr : Rd H a u) (ho : ¬ Own σ ρ a) (k : ∀ b o, H b = some o → ¬ Own σ ρ b → H' b = some o) : Rd H' a u := Rd.up (fun o e => k a o e ho) hr
theorem walk_list {K : PySem.W.Frag} {a : Addr} {xs : List V} {ds : List D} (hr : Rd H a (.lst xs)) (ho : ¬ Own σ ρ a) (ha : RepA (Av P T σ ρ) H xs ds) : Walk P T σ ρ H (Itl K a) ds where
  go := fun i H' k hi => by
    have hi' : i < xs.length := by rw [ha.length]; exact hi
    exact ⟨xs, xs[i], .inl (rd_keep hr ho k), by simp [hi']⟩
  yld := fun i H' k hi x H2 y => by
    obtain ⟨e, y⟩ := y
    subst e
    have hx := y xs (.inl (rd_keep hr ho k))
    obtain ⟨d, e1, r1⟩ := ha.get hx
    exact ⟨fun _ _ z => z, d, e1, r1.mono fun b o z e => ⟨.inl ⟨z, o, e⟩, k b o e z.2.1⟩⟩
  stop := fun H' k => ⟨xs, .inl (rd_keep hr ho k), by rw [ha.length]; exact Nat.le_refl _⟩
theorem walk_tup {K : PySem.W.Frag} {a : Addr} {xs : List V} {ds : List D} (hr : Rd H a (.tup xs)) (ho : ¬ Own σ ρ a) (ha : RepA (Av P T σ ρ) H xs ds) : Walk P T σ ρ H (Itt K a) ds where
  go := fun i H' k hi => by
    have hi' : i < xs.length := by rw [ha.length]; exact hi
    exact ⟨xs, xs[i], .inl (rd_keep hr ho k), by simp [hi']⟩
  yld := fun i H' k hi x H2 y => by
    obtain ⟨e, y⟩ := y
    subst e
    have hx := y xs (.inl (rd_keep hr ho k))
    obtain ⟨d, e1, r1⟩ := ha.get hx
    exact ⟨fun _ _ z => z, d, e1, r1.mono fun b o z e => ⟨.inl ⟨z, o, e⟩, k b o e z.2.1⟩⟩
  stop := fun H' k => ⟨xs, .inl (rd_keep hr ho k), by rw [ha.length]; exact Nat.le_refl _⟩
def rgD (lo c : Int) (n : Nat) : List D := (List.range n).map fun i => .int (lo + (i : Nat) * c)
theorem rgD_len {lo c : Int} {n : Nat} : (rgD lo c n).length = n := by simp [rgD]
theorem rgD_get {lo c : Int} {n i : Nat} (h : i < n) : (rgD lo c n)[i]? = some (.int (lo + (i : Nat) * c)) := by simp [rgD, h]
theorem walk_rng {lo : Int} {n : Nat} : Walk P T σ ρ H (Itr lo n) (rgD lo 1 n) where
  go := fun i H' k hi => by rw [rgD_len] at hi; exact hi
  yld := fun i H' k hi x H2 y => by
    rw [rgD_len] at hi
    obtain ⟨e1, e2⟩ := y
    subst e1 e2
    exact ⟨fun _ _ z => z, _, rgD_get hi, by rw [Int.mul_one]; exact .int _⟩
  stop := fun H' k => by show _ ≤ _; rw [rgD_len]; exact Nat.le_refl _
/-- two items in a new pair -/
theorem rep_pair {H2 : Hp} {t : Addr} {x y : V} {dx dy : D} (hn : H' t = none) (e : H2 = upd H' t (.tup [x, y])) (k : ∀ b o, H b = some o → ¬ Own σ ρ b → H' b = some o) (rx : Rep (Av P T σ ρ) H x dx) (ry : Rep (Av P T σ ρ) H y dy) :
    (∀ b o, H' b = some o → H2 b = some o) ∧ Rep (fun b => (Av P T σ ρ b ∧ ∃ o, H b = some o) ∨ H' b = none) H2 (.ref t) (.tuple [dx, dy]) := by
  subst e
  have up : ∀ b o, Av P T σ ρ b → H b = some o → ((Av P T σ ρ b ∧ ∃ o, H b = some o) ∨ H' b = none) ∧ upd H' t (.tup [x, y]) b = some o := fun b o z e => ⟨.inl ⟨z, o, e⟩, by
    have q := k b o e z.2.1
    rw [upd_ne (ne_of_none q hn)]; exact q⟩
  exact ⟨fun b o q => by rw [upd_ne (ne_of_none q hn)]; exact q, .tup (.inr hn) upd_same (.cons (rx.mono up) (.cons (ry.mono up) .nil))⟩
def enD (i : Nat) : List D → List D
  | [] => []
  | d :: ds => .tuple [.int i, d] :: enD (i + 1) ds
theorem enD_len : ∀ (ds : List D) (i : Nat), (enD i ds).length = ds.length
  | [], _ => rfl
  | d :: ds, i => by simp [enD, enD_len ds]
theorem enD_get : ∀ (ds : List D) (i j : Nat) (d : D), ds[j]? = some d → (enD i ds)[j]? = some (.tuple [.int ((i + j : Nat) : Int), d])
  | [], i, j, d, h => by simp at h
  | e :: ds, i, 0, d, h => by simp at h; subst h; simp [enD]
  | e :: ds, i, j + 1, d, h => by
    have := enD_get ds (i + 1) j d (by simpa using h)
    rw [show (enD i (e :: ds))[j + 1]? = (enD (i + 1) ds)[j]? by simp [enD], this, show i + 1 + j = i + (j + 1) by omega]
theorem walk_enum {K : PySem.W.Frag} {a : Addr} {xs : List V} {ds : List D} (hr : Rd H a (.lst xs)) (ho : ¬ Own σ ρ a) (ha : RepA (Av P T σ ρ) H xs ds) : Walk P T σ ρ H (Ite K a) (enD 0 ds) where
  go := fun i H' k hi => by
    rw [enD_len] at hi
    have hi' : i < xs.length := by rw [ha.length]; exact hi
    exact ⟨xs, xs[i], .inl (rd_keep hr ho k), by simp [hi']⟩
  yld := fun i H' k hi x H2 y => by
    obtain ⟨t, y0, e1, hn, e2, y⟩ := y
    subst e1
    have hx := y xs (.inl (rd_keep hr ho k))
    obtain ⟨d, e3, r1⟩ := ha.get hx
    obtain ⟨u1, u2⟩ := rep_pair (P := P) (T := T) hn e2 k (.int (i : Nat)) r1
    exact ⟨u1, _, by rw [enD_get ds 0 i d e3, Nat.zero_add], u2⟩
  stop := fun H' k => ⟨xs, .inl (rd_keep hr ho k), by rw [ha.length, enD_len]; exact Nat.le_refl _⟩
def zipD : List D → List D → List D
  | x :: xs, y :: ys => .tuple [x, y] :: zipD xs ys
  | _, _ => []
theorem zipD_len : ∀ (ds es : List D), (zipD ds es).length = min ds.length es.length
  | [], es => by simp [zipD]
  | d :: ds, [] => by simp [zipD]
  | d :: ds, e :: es => by simp [zipD, zipD_len ds es]
theorem zipD_get : ∀ (ds es : List D) (j : Nat) (d e : D), ds[j]? = some d → es[j]? = some e → (zipD ds es)[j]? = some (.tuple [d, e])
  | [], es, j, d, e, h, _ => by simp at h
  | d :: ds, [], j, _, e, _, h => by simp at h
  | d' :: ds, e' :: es, 0, d, e, h, h' => by simp at h h'; subst h h'; simp [zipD]
  | d' :: ds, e' :: es, j + 1, d, e, h, h' => by
    have := zipD_get ds es j d e (by simpa using h) (by simpa using h')
    rw [show (zipD (d' :: ds) (e' :: es))[j + 1]? = (zipD ds es)[j]? by simp [zipD], this]
theorem walk_zipL {K : PySem.W.Frag} {a b : Addr} {xs ys : List V} {ds es : List D} (hr : Rd H a (.lst xs)) (ho : ¬ Own σ ρ a) (ha : RepA (Av P T σ ρ) H xs ds) (hr2 : Rd H b (.lst ys)) (ho2 : ¬ Own σ ρ b) (ha2 : RepA (Av P T σ ρ) H ys es) : Walk P T σ ρ H (Itz K a b) (zipD ds es) where
  go := fun i H' k hi => by
    rw [zipD_len, ← ha.length, ← ha2.length] at hi
    have h1 : i < xs.length := by omega
    have h2 : i < ys.length := by omega
    exact ⟨xs, ys, xs[i], ys[i], .inl (rd_keep hr ho k), .inl (rd_keep hr2 ho2 k), by simp [h1], by simp [h2]⟩
  yld := fun i H' k hi x H2 y => by
    obtain ⟨t, x0, y0, e1, hn, e2, y1, y2⟩ := y
    subst e1
    obtain ⟨d, e3, r1⟩ := ha.get (y1 xs (.inl (rd_keep hr ho k)))
    obtain ⟨e, e4, r2⟩ := ha2.get (y2 ys (.inl (rd_keep hr2 ho2 k)))
    obtain ⟨u1, u2⟩ := rep_pair (P := P) (T := T) hn e2 k r1 r2
    exact ⟨u1, _, zipD_get ds es i d e e3 e4, u2⟩
  stop := fun H' k => ⟨xs, ys, .inl (rd_keep hr ho k), .inl (rd_keep hr2 ho2 k), by
    rw [zipD_len, ← ha.length, ← ha2.length]
    omega⟩
theorem walk_zipT {K : PySem.W.Frag} {a b : Addr} {xs ys : List V} {ds es : List D} (hr : Rd H a (.tup xs)) (ho : ¬ Own σ ρ a) (ha : RepA (Av P T σ ρ) H xs ds) (hr2 : Rd H b (.tup ys)) (ho2 : ¬ Own σ ρ b) (ha2 : RepA (Av P T σ ρ) H ys es) : Walk P T σ ρ H (RZ.ItzT K a b) (zipD ds es) where
  go := fun i H' k hi => by
    rw [zipD_len, ← ha.length, ← ha2.length] at hi
    have h1 : i < xs.length := by omega
    have h2 : i < ys.length := by omega
    exact ⟨xs, ys, xs[i], ys[i], .inl (rd_keep hr ho k), .inl (rd_keep hr2 ho2 k), by simp [h1], by simp [h2]⟩
  yld := fun i H' k hi x H2 y => by
    obtain ⟨t, x0, y0, e1, hn, e2, y1, y2⟩ := y
    subst e1
    obtain ⟨d, e3, r1⟩ := ha.get (y1 xs (.inl (rd_keep hr ho k)))
    obtain ⟨e, e4, r2⟩ := ha2.get (y2 ys (.inl (rd_keep hr2 ho2 k)))
    obtain ⟨u1, u2⟩ := rep_pair (P := P) (T := T) hn e2 k r1 r2
    exact ⟨u1, _, zipD_get ds es i d e e3 e4, u2⟩
  stop := fun H' k => ⟨xs, ys, .inl (rd_keep hr ho k), .inl (rd_keep hr2 ho2 k), by
    rw [zipD_len, ← ha.length, ← ha2.length]
    omega⟩
end
def fiseq (f : Fe) : Fi := fun ρ => (f ρ).bind fun x => (dat x.2 x.1).bind fun d => (rel x.2 x.1).bind fun ρ2 => match d with
  | .list ds => some (ds, ρ2)
  | .tuple ds => some (ds, ρ2)
  | _ => none
def firng1 (fs : Fa) : Fi := fun ρ => (fs ρ).bind fun x => (datA x.2 x.1).bind fun ds => match ds with
  | [.int j] => if -(2 ^ 62) ≤ j ∧ j < 2 ^ 62 then some (rgD 0 1 j.toNat, x.2) else none
  | _ => none
def fizip (fs : Fa) : Fi := fun ρ => (fs ρ).bind fun x => (datA x.2 x.1).bind fun ds => (relA x.2 x.1).bind fun ρ2 => match ds with
  | [.list xs, .list ys] => some (zipD xs ys, ρ2)
  | [.tuple xs, .tuple ys] => some (zipD xs ys, ρ2)
  | _ => none
section
variable {X : Cx} {tg e e2 a b c : Expr} {fe : Fe} {fs : Fa} {p pos : Pos}
theorem di_seq (he : DE X e fe) : DI X tg e (fiseq fe) := by
  intro P T σ ρ H items ρ' S hf R q
  simp only [fiseq, Option.bind_eq_some_iff] at hf
  obtain ⟨⟨r, ρ1⟩, e1, d, e2, ρ2, e3, e4⟩ := hf
  cases d with
  | list ds =>
    cases e4
    refine PI.wi (pi_list peW) (he P T σ ρ H r ρ1 S e1 _ fun v H1 T1 A => ?_)
    obtain ⟨st2, kp2⟩ := rel_stp (σ := σ) (H := H1) e3
    obtain ⟨a, xs, ev, hr, ho, ha⟩ := (A.val.held A.sim e3 e2).1 _ rfl
    exact ⟨a, ev, ⟨xs, .inl hr⟩, q _ H1 T1 (A.sim.rel e3) (A.stp.trans st2) (A.kp.trans kp2) A.tx.tg (walk_list hr ho ha)⟩
  | tuple ds =>
    cases e4
    refine PI.wi (pi_tup peW) (he P T σ ρ H r ρ1 S e1 _ fun v H1 T1 A => ?_)
    obtain ⟨st2, kp2⟩ := rel_stp (σ := σ) (H := H1) e3
    obtain ⟨a, xs, ev, hr, ho, ha⟩ := (A.val.held A.sim e3 e2).2 _ rfl
    exact ⟨a, ev, ⟨xs, .inl hr⟩, q _ H1 T1 (A.sim.rel e3) (A.stp.trans st2) (A.kp.trans kp2) A.tx.tg (walk_tup hr ho ha)⟩
  | _ => cases e4
theorem top_int {S : Addr → Prop} {H : Hp} {v : V} {i : Int} (h : Top S H v (.int i)) : v = .int i := by
  cases (show Rep _ _ _ _ from h)
  rfl
theorem di_rng1 (hg : Gl X "range") (hm : X.mg "range" = none) (ha : DA X [a] fs) (hs : starEach [a] X.env = [(false, eval a X.env)] := by rfl) : DI X tg (.Call (.Name "range" p) [a] [] pos) (firng1 fs) := by
  intro P T σ ρ H items ρ' S hf R q
  simp only [firng1, Option.bind_eq_some_iff] at hf
  obtain ⟨⟨rs, ρ1⟩, e1, ds, e2, e3⟩ := hf
  match ds, e2, e3 with
  | [.int j], e2, e3 =>
    have e3 : (if -(2 ^ 62) ≤ j ∧ j < 2 ^ 62 then some (rgD 0 1 j.toNat, ρ1) else none) = some (items, ρ') := e3
    by_cases hj : -(2 ^ 62) ≤ j ∧ j < 2 ^ 62
    · rw [if_pos hj] at e3; cases e3
      refine PI.wi (pi_range1 hg hm paW hs) (ha P T σ ρ H rs _ S e1 _ fun vs H1 T1 _ A => ?_)
      have t := A.val.top A.sim e2
      cases t with
      | cons t1 t2 =>
        cases t2
        cases top_int t1
        exact ⟨j, rfl, hj.1, hj.2, q _ H1 T1 A.sim A.stp A.kp A.tg walk_rng⟩
    · rw [if_neg hj] at e3; cases e3
theorem heldA2 {P : Pk} {T : Addr → Prop} {σ : SS} {ρ ρ' : En} {H : Hp} {vs : List V} {rs : List RV} {d1 d2 : D} (V0 : ValA P T σ ρ H vs rs) (S : Sim P T σ ρ H) (hd : datA ρ rs = some [d1, d2]) (hr : relA ρ rs = some ρ') : ∃ v1 v2 r1 r2 ρ1, vs = [v1, v2] ∧ rs = [r1, r2] ∧ rel ρ r1 = some ρ1 ∧ rel ρ1 r2 = some ρ' ∧ dat ρ r1 = some d1 ∧ dat ρ1 r2 = some d2 ∧ Val P T σ ρ H v1 r1 ∧ Val P T σ ρ1 H v2 r2 ∧ Sim P T σ ρ1 H ∧ Sim P T σ ρ' H ∧ Stp σ ρ H σ ρ' H ∧ Stp σ ρ1 H σ ρ' H ∧ Kp ρ ρ' := by
  match rs, vs, hd, hr, V0 with
  | [], [], hd, _, _ => cases hd
  | [r], _, hd, _, _ =>
    have := datA_len hd
    simp at this
  | r1 :: r2 :: r3 :: rs, _, hd, _, _ =>
    have := datA_len hd
    simp at this
  | [r1, r2], [v1, v2], hd, hr, ⟨h1, h2, _⟩ =>
    obtain ⟨d, k1, k2⟩ := datA_get hd (i := 0) rfl
    cases k2
    obtain ⟨d, k3, k4⟩ := datA_get hd (i := 1) rfl
    cases k4
    unfold relA at hr
    cases e1 : rel ρ r1 with
    | none => rw [e1] at hr; cases hr
    | some ρ1 =>
      rw [e1] at hr
      have hr : relA ρ1 [r2] = some ρ' := hr
      unfold relA at hr
      cases e2 : rel ρ1 r2 with
      | none => rw [e2] at hr; cases hr
      | some ρ2 =>
        rw [e2] at hr
        cases hr
        obtain ⟨st1, kp1⟩ := rel_stp (σ := σ) (H := H) e1
        obtain ⟨st2, kp2⟩ := rel_stp (σ := σ) (H := H) e2
        exact ⟨v1, v2, r1, r2, ρ1, rfl, rfl, e1, e2, k1, by rw [rel_dat e1]; exact k3, h1, h2.step S st1 kp1 .refl, S.rel e1, (S.rel e1).rel e2, st1.trans st2, st2, kp1.trans kp2⟩
theorem di_zip {tpos : Pos} {elts : List Expr} {kk : Nat} (hg : Gl X "zip") (hm : X.mg "zip" = none) (ha : DA X [e, e2] fs) (hs : starEach [e, e2] X.env = (false, eval e X.env) :: starEach [e2] X.env := by rfl) (hpl : (backTo pos (starEach [e2] X.env)).any (·.1) = false := by rfl) :
    DI X (.Tuple elts kk tpos) (.Call (.Name "zip" p) [e, e2] [] pos) (fizip fs) := by
  intro P T σ ρ H items ρ' S hf R q
  simp only [fizip, Option.bind_eq_some_iff] at hf
  obtain ⟨⟨rs, ρ1⟩, e1, ds, e2, ρ2, e3, e4⟩ := hf
  have upA : ∀ {ρ1 ρ2 : En} {H1 : Hp} {T1 : Addr → Prop} {xs : List V} {es : List D}, Stp σ ρ1 H1 σ ρ2 H1 → RepA (Av P T1 σ ρ1) H1 xs es → RepA (Av P T1 σ ρ2) H1 xs es := fun st h => h.mono (av_step st .refl)
  have upO : ∀ {ρ1 ρ2 : En} {H1 : Hp} {a : Addr} {u : HO}, Stp σ ρ1 H1 σ ρ2 H1 → Rd H1 a u → ¬ Own σ ρ1 a → ¬ Own σ ρ2 a := fun st hr ho z => by
    rcases st.os _ z with z | z
    · exact ho z
    · obtain ⟨o, e⟩ := Rd.dom hr
      rw [z] at e; cases e
  match ds, e2, e4 with
  | [.list xs, .list ys], e2, e4 =>
    cases e4
    refine PI.wi (RZ.pi_zipA hg hm paW hs hpl) (ha P T σ ρ H rs ρ1 S e1 _ fun vs H1 T1 _ A => ?_)
    obtain ⟨v1, v2, r1, r2, ρ3, ev, er, k1, k2, k3, k4, k5, k6, S3, S4, st, st', kp⟩ := heldA2 A.val A.sim e2 e3
    obtain ⟨a, us, y1, y2, y3, y4⟩ := (k5.held A.sim k1 k3).1 _ rfl
    obtain ⟨b, ws, z1, z2, z3, z4⟩ := (k6.held S3 k2 k4).1 _ rfl
    exact ⟨a, b, us, ws, by rw [ev, y1, z1], .inl ⟨.inl y2, .inl z2, q _ H1 T1 S4 (A.stp.trans st) (A.kp.trans kp) A.tg (walk_zipL y2 (upO st' y2 y3) (upA st' y4) z2 z3 z4)⟩⟩
  | [.tuple xs, .tuple ys], e2, e4 =>
    cases e4
    refine PI.wi (RZ.pi_zipA hg hm paW hs hpl) (ha P T σ ρ H rs ρ1 S e1 _ fun vs H1 T1 _ A => ?_)
    obtain ⟨v1, v2, r1, r2, ρ3, ev, er, k1, k2, k3, k4, k5, k6, S3, S4, st, st', kp⟩ := heldA2 A.val A.sim e2 e3
    obtain ⟨a, us, y1, y2, y3, y4⟩ := (k5.held A.sim k1 k3).2 _ rfl
    obtain ⟨b, ws, z1, z2, z3, z4⟩ := (k6.held S3 k2 k4).2 _ rfl
    exact ⟨a, b, us, ws, by rw [ev, y1, z1], .inr ⟨.inl y2, .inl z2, q _ H1 T1 S4 (A.stp.trans st) (A.kp.trans kp) A.tg (walk_zipT y2 (upO st' y2 y3) (upA st' y4) z2 z3 z4)⟩⟩
end
end DL
set_option Elab.async false
set_option linter.all false
set_option maxRecDepth 100000
set_option maxHeartbeats 2000000
namespace DL
open PySem PySem.Spec PyProof.Rows L2
def forD (b : Fg) (body : Fst) : List D → Fst
  | [], ρ => some (.nx ρ)
  | d :: ds, ρ => (b d ρ).bind fun ρ1 => (body ρ1).bind fun o => match o with
    | .nx ρ2 => forD b body ds ρ2
    | .ct ρ2 => forD b body ds ρ2
    | .bk ρ2 => some (.nx ρ2)
    | .rt r ρ2 => some (.rt r ρ2)
def ffor (g : Fi) (b : Fg) (body : Fst) : Fst := fun ρ => (g ρ).bind fun x => forD b body x.1 x.2
def whileD (c : Ft) (body : Fst) : Nat → Fst
  | 0, _ => none
  | n + 1, ρ => (c ρ).bind fun x => if x.1 then (body x.2).bind fun o => match o with
      | .nx ρ2 => whileD c body n ρ2
      | .ct ρ2 => whileD c body n ρ2
      | .bk ρ2 => some (.nx ρ2)
      | .rt r ρ2 => some (.rt r ρ2)
    else some (.nx x.2)
section
variable {P : Pk} {T T2 : Addr → Prop} {σ : SS} {ρ ρ' : En} {H H' : Hp} {v : V} {r : RV}
theorem Val.less {T' : Addr → Prop} (V0 : Val P T' σ ρ H v r) (h : ∀ b, T2 b → T' b) (hf : ∀ d a, r = .fr d → v = .ref a → T2 a) : Val P T2 σ ρ H v r := by
  have av : ∀ a o, Av P T' σ ρ a → H a = some o → Av P T2 σ ρ a ∧ H a = some o := fun a o ⟨h1, h2, h3⟩ e => ⟨⟨h1, h2, fun z => h3 (h a z)⟩, e⟩
  cases r with
  | sh d => exact Rep.mono V0 av
  | al i => exact V0
  | fr d =>
    obtain ⟨a, o, e1, ta, ha, hn, hr⟩ := V0
    exact ⟨a, o, e1, hf d a rfl e1, ha, hn, hr.mono av⟩
/-- an end inside a loop that holds more temporaries -/
theorem OutOk.more {T' : Addr → Prop} {Ds : Ends} {o : Out} (tg : Tg T H T') (h : OutOk P T σ ρ H Ds o) : OutOk P T' σ ρ H Ds o := by
  cases o with
  | nx ρ' => exact fun σ' H' S st => h σ' H' (S.less tg.1) st
  | bk ρ' => exact fun σ' H' S st => h σ' H' (S.less tg.1) st
  | ct ρ' => exact fun σ' H' S st => h σ' H' (S.less tg.1) st
  | rt r ρ' =>
    intro v σ' H' T2 S st tx V0
    cases r with
    | sh d => cases tx; exact h v σ' H' T (S.less tg.1) st rfl (Val.less V0 tg.1 fun _ _ q => nomatch q)
    | al i => cases tx; exact h v σ' H' T (S.less tg.1) st rfl (Val.less V0 tg.1 fun _ _ q => nomatch q)
    | fr d =>
      obtain ⟨a, e1, hn, rfl⟩ := tx
      have hl : ∀ b, (T b ∨ b = a) → (T' b ∨ b = a) := fun b z => z.elim (fun y => .inl (tg.1 b y)) .inr
      refine h v σ' H' (fun b => T b ∨ b = a) (S.less hl) st ⟨a, e1, hn, rfl⟩ (Val.less V0 hl fun d' a' q1 q2 => ?_)
      rw [e1] at q2; cases q2; exact .inr rfl
end
section
variable {X : Cx} {tg iter : Expr} {is : List Nat} {g : Fi} {b : Fg} {body : List Stmt} {fb : Fst} {c : Expr} {fc : Ft} {pos : Pos}
theorem ds_for (hp : PassesOwn (model X.prog X.w) X.A X.env X.xe) (hc : X.calm = true) (hi : DI X tg iter g) (hg : DG X tg is b) (hb : DSs X body fb) (hs : ∀ x, foldedSetIterable iter X.env x = pure x := by intro _; rfl) :
    DS X (.For tg iter body [] pos) (ffor g b fb) := fun P T σ ρ H o S hf Ds q => by
  simp only [ffor, Option.bind_eq_some_iff] at hf
  obtain ⟨⟨items, ρ1⟩, e1, e2⟩ := hf
  refine PS.ws (ps_for hp hc piW pgW pssW hs) (hi P T σ ρ H items ρ1 S e1 _ fun J H1 T1 S1 st1 kp1 tg1 W => ?_)
  have q1 : OutOk P T1 σ ρ1 H1 Ds o := OutOk.back st1 (OutOk.more tg1 q)
  refine ⟨fun i m σ' H' => m = items.length - i ∧ i ≤ items.length ∧ ∃ ρi, Sim P T1 σ' ρi H' ∧ Stp σ ρ1 H1 σ' ρi H' ∧ forD b fb (items.drop i) ρi = some o, ⟨_, rfl, Nat.zero_le _, ρ1, S1, .refl, e2⟩, ?_⟩
  rintro i m σ2 H2 ⟨rfl, hi, ρi, S2, st2, e3⟩
  by_cases hlt : i < items.length
  · right
    have hd : items.drop i = items[i] :: items.drop (i + 1) := List.drop_eq_getElem_cons hlt
    rw [hd] at e3
    simp only [forD, Option.bind_eq_some_iff] at e3
    obtain ⟨ρ2, e4, o2, e5, e6⟩ := e3
    refine ⟨W.go i H2 st2.fr hlt, fun σ' H' => i + 1 ≤ items.length ∧ ∃ ρi, Sim P T1 σ' ρi H' ∧ Stp σ ρ1 H1 σ' ρi H' ∧ forD b fb (items.drop (i + 1)) ρi = some o, fun σ' H' h => ⟨_, by omega, rfl, h.1, h.2⟩, fun x H3 hy => ?_⟩
    obtain ⟨up, d, ed, rd⟩ := W.yld i H2 st2.fr hlt x H3 hy
    have ed' : items[i] = d := by
      rw [List.getElem?_eq_getElem hlt] at ed; exact Option.some.inj ed
    rw [ed'] at e4
    obtain ⟨S3, st3⟩ := S2.grow .refl up (fun b hb => let ⟨o, e⟩ := (S2.tn b hb).1; ⟨o, up b o e⟩)
    have rd' : Rep (Av P T1 σ2 ρi) H3 x d := rd.mono fun a u h e => by
      refine ⟨?_, e⟩
      rcases h with ⟨⟨h1, h2, h3⟩, o', e'⟩ | h
      · refine ⟨h1, fun z => ?_, h3⟩
        rcases st2.os a z with z | z
        · exact h2 z
        · rw [e'] at z; cases z
      · refine ⟨.inr (h0_none S2 h), fun z => ?_, fun z => ?_⟩
        · obtain ⟨o', e'⟩ := own_dom S2 z
          rw [h] at e'; cases e'
        · obtain ⟨⟨o', e'⟩, _⟩ := S2.tn a z
          rw [h] at e'; cases e'
    refine hg P T1 σ2 ρi H3 x d ρ2 S3 rd' e4 _ fun σ4 H4 S4 st4 _ => ?_
    have st5 := (st2.trans st3).trans st4
    refine hb P T1 σ4 ρ2 H4 o2 S4 e5 _ ?_
    cases o2 with
    | nx ρ3 => exact fun σ' H' S' st' => ⟨hlt, ρ3, S', st5.trans st', e6⟩
    | ct ρ3 => exact fun σ' H' S' st' => ⟨hlt, ρ3, S', st5.trans st', e6⟩
    | bk ρ3 => cases e6; exact fun σ' H' S' st' => q1 σ' H' S' (st5.trans st')
    | rt r ρ3 => cases e6; exact q1.back st5
  · left
    have e : i = items.length := by omega
    subst e
    rw [List.drop_length] at e3
    cases e3
    exact ⟨W.stop H2 st2.fr, q1 σ2 H2 S2 st2⟩
theorem ds_while (n : Nat) (hp : PassesOwn (model X.prog X.w) X.A X.env X.xe) (hc : DT X c fc) (hb : DSs X body fb) : DS X (.While c body [] pos) (whileD fc fb n) := fun P T σ ρ H o S hf Ds q => by
  refine PS.ws (ps_while hp ptW pssW) ⟨fun m σ' H' => ∃ ρi, Sim P T σ' ρi H' ∧ Stp σ ρ H σ' ρi H' ∧ whileD fc fb m ρi = some o, ⟨n, ρ, S, .refl, hf⟩, ?_⟩
  rintro m σ2 H2 ⟨ρi, S2, st2, e3⟩
  cases m with
  | zero => cases e3
  | succ m =>
    simp only [whileD, Option.bind_eq_some_iff] at e3
    obtain ⟨⟨k, ρ1⟩, e1, e2⟩ := e3
    refine hc P T σ2 ρi H2 k ρ1 S2 e1 _ fun H3 S3 st3 kp3 => ?_
    cases k with
    | false =>
      rw [if_neg Bool.false_ne_true]
      simp only [Bool.false_eq_true, if_false] at e2
      cases e2
      exact q σ2 H3 S3 (st2.trans st3)
    | true =>
      rw [if_pos rfl]
      simp only [if_true, Option.bind_eq_some_iff] at e2
      obtain ⟨o2, e4, e5⟩ := e2
      refine ⟨fun σ' H' => ∃ ρi, Sim P T σ' ρi H' ∧ Stp σ ρ H σ' ρi H' ∧ whileD fc fb m ρi = some o, fun σ' H' h => ⟨m, Nat.lt_succ_self m, h⟩, ?_⟩
      have st5 := st2.trans st3
      refine hb P T σ2 ρ1 H3 o2 S3 e4 _ ?_
      cases o2 with
      | nx ρ3 => exact fun σ' H' S' st' => ⟨ρ3, S', st5.trans st', e5⟩
      | ct ρ3 => exact fun σ' H' S' st' => ⟨ρ3, S', st5.trans st', e5⟩
      | bk ρ3 => cases e5; exact fun σ' H' S' st' => q σ' H' S' (st5.trans st')
      | rt r ρ3 => cases e5; exact q.back st5
end
def wipeE (ρ : En) : List Nat → En
  | [] => ρ
  | i :: is => (wipeE ρ is).set i none
def slotAt (ρ : En) (i : Nat) : Option (Fl × D) := match ρ[i]? with
  | some x => x
  | none => none
/-- the block's own names as they were ahead -/
def backE (ρ ρ2 : En) : List Nat → En
  | [] => ρ2
  | i :: is => (backE ρ ρ2 is).set i (slotAt ρ i)
def noOwn (ρ : En) (is : List Nat) : Bool := is.all fun i => match ρ[i]? with
  | some (some (.sh, _)) => true
  | some none => true
  | _ => false
def lcD (own : List Nat) (b : Fg) (t : Ft) (elt : Fe) : List D → En → List D → Option (List D × En)
  | [], ρ, acc => some (acc, ρ)
  | d :: ds, ρ, acc => (b d (wipeE ρ own)).bind fun ρ1 => (t ρ1).bind fun x => if x.1 then (elt x.2).bind fun y => (dat y.2 y.1).bind fun e => (rel y.2 y.1).bind fun ρ2 => if acc.length < 16777216 then lcD own b t elt ds (backE ρ ρ2 own) (acc ++ [e]) else none
    else lcD own b t elt ds (backE ρ x.2 own) acc
def flc (own : List Nat) (g : Fi) (b : Fg) (t : Ft) (elt : Fe) : Fe := fun ρ => (g ρ).bind fun x => if noOwn x.2 own then (lcD own b t elt x.1 x.2 []).map fun y => (.fr (.list y.1), y.2) else none
def ftrue : Ft := fun ρ => some (true, ρ)
theorem wipeE_len (ρ : En) : ∀ is : List Nat, (wipeE ρ is).length = ρ.length
  | [] => rfl
  | i :: is => by unfold wipeE; rw [List.length_set, wipeE_len ρ is]
theorem backE_len (ρ ρ2 : En) : ∀ is : List Nat, (backE ρ ρ2 is).length = ρ2.length
  | [] => rfl
  | i :: is => by unfold backE; rw [List.length_set, backE_len ρ ρ2 is]
theorem wipeE_get {ρ : En} {x : Fl × D} {j : Nat} : ∀ {is : List Nat}, (wipeE ρ is)[j]? = some (some x) → j ∉ is ∧ ρ[j]? = some (some x)
  | [], h => ⟨by simp, h⟩
  | i :: is, h => by
    unfold wipeE at h
    rcases get_set h with ⟨_, e⟩ | ⟨hj, e⟩
    · cases e
    · obtain ⟨h1, h2⟩ := wipeE_get e
      exact ⟨by simp only [List.mem_cons, not_or]; exact ⟨hj, h1⟩, h2⟩
theorem wipeE_out {ρ : En} {j : Nat} : ∀ {is : List Nat}, j ∉ is → (wipeE ρ is)[j]? = ρ[j]?
  | [], _ => rfl
  | i :: is, h => by
    simp only [List.mem_cons, not_or] at h
    unfold wipeE
    rw [List.getElem?_set_ne (Ne.symm h.1), wipeE_out h.2]
theorem backE_out {ρ ρ2 : En} {j : Nat} : ∀ {is : List Nat}, j ∉ is → (backE ρ ρ2 is)[j]? = ρ2[j]?
  | [], _ => rfl
  | i :: is, h => by
    simp only [List.mem_cons, not_or] at h
    unfold backE
    rw [List.getElem?_set_ne (Ne.symm h.1), backE_out h.2]
theorem backE_in {ρ ρ2 : En} {j : Nat} {x : Option (Fl × D)} : ∀ {is : List Nat}, j ∈ is → (backE ρ ρ2 is)[j]? = some x → x = slotAt ρ j
  | [], h, _ => by simp at h
  | i :: is, h, e => by
    unfold backE at e
    rcases get_set e with ⟨rfl, e⟩ | ⟨hj, e⟩
    · exact e
    · rcases List.mem_cons.mp h with h | h
      · exact absurd h hj
      · exact backE_in h e
theorem wipe_out' {σ : SS} {j : Nat} : ∀ {is : List Nat}, j ∉ is → (wipe σ is)[j]? = σ[j]?
  | [], _ => rfl
  | i :: is, h => by
    simp only [List.mem_cons, not_or] at h
    unfold wipe
    rw [List.getElem?_set_ne (Ne.symm h.1), wipe_out' h.2]
theorem wipe_in {σ : SS} {j : Nat} : ∀ {is : List Nat}, j ∈ is → j < σ.length → (wipe σ is)[j]? = some none
  | [], h, _ => by simp at h
  | i :: is, h, hl => by
    unfold wipe
    by_cases hj : i = j
    · subst hj
      exact List.getElem?_set_self (by rw [wipe_length]; exact hl)
    · rw [List.getElem?_set_ne hj]
      rcases List.mem_cons.mp h with h | h
      · exact absurd h.symm hj
      · exact wipe_in h hl
theorem wipe_eq {σ σ2 : SS} {is : List Nat} (hl : σ2.length = σ.length) (h : ∀ j, j ∉ is → σ2[j]? = σ[j]?) : wipe σ2 is = wipe σ is := by
  apply List.ext_getElem?
  intro j
  by_cases hj : j ∈ is
  · by_cases hl' : j < σ.length
    · rw [wipe_in hj hl', wipe_in hj (by rw [hl]; exact hl')]
    · rw [List.getElem?_eq_none (by rw [wipe_length]; omega), List.getElem?_eq_none (by rw [wipe_length]; omega)]
  · rw [wipe_out' hj, wipe_out' hj, h j hj]
theorem noOwn_spec {ρ : En} {is : List Nat} (h : noOwn ρ is = true) {i : Nat} (hi : i ∈ is) : ∃ x, ρ[i]? = some x ∧ ∀ fl d, x = some (fl, d) → fl = .sh := by
  have := List.all_eq_true.mp h i hi
  cases e : ρ[i]? with
  | none => rw [e] at this; cases this
  | some x =>
    refine ⟨x, rfl, fun fl d q => ?_⟩
    subst q
    rw [e] at this
    cases fl with
    | sh => rfl
    | ow => cases this
    | bx => cases this
section
variable {P : Pk} {T : Addr → Prop} {σ σ2 : SS} {ρ ρ2 : En} {H H2 : Hp} {is : List Nat}
theorem Sim.wiped (S : Sim P T σ ρ H) (hn : noOwn ρ is = true) : Sim P T (wipe σ is) (wipeE ρ is) H ∧ (∀ b, Own (wipe σ is) (wipeE ρ is) b → Own σ ρ b) ∧ (∀ b, Own σ ρ b → Own (wipe σ is) (wipeE ρ is) b) := by
  have ow : ∀ b, Own (wipe σ is) (wipeE ρ is) b → Own σ ρ b := fun b ⟨i, fl, d, h1, h2, h3⟩ => by
    obtain ⟨k1, k2⟩ := wipeE_get h1
    rw [wipe_out' k1] at h3
    exact ⟨i, fl, d, k2, h2, h3⟩
  have ow' : ∀ b, Own σ ρ b → Own (wipe σ is) (wipeE ρ is) b := fun b ⟨i, fl, d, h1, h2, h3⟩ => by
    have k1 : i ∉ is := fun z => by
      obtain ⟨x, e, hx⟩ := noOwn_spec hn z
      rw [h1] at e; cases e
      exact h2 (hx fl d rfl)
    exact ⟨i, fl, d, by rw [wipeE_out k1]; exact h1, h2, by rw [wipe_out' k1]; exact h3⟩
  have av : ∀ a o, Av P T σ ρ a → H a = some o → Av P T (wipe σ is) (wipeE ρ is) a ∧ H a = some o := fun a o ⟨h1, h2, h3⟩ e => ⟨⟨h1, fun z => h2 (ow a z), h3⟩, e⟩
  refine ⟨⟨by rw [wipe_length, wipeE_len]; exact S.len, fun i d e => ?_, fun i fl d e n => ?_, fun i j f1 f2 d1 d2 a h1 h2 h3 h4 h5 h6 => ?_, fun i d a h1 h2 => ?_, fun i d h => ?_, fun b q => ⟨(S.tn b q).1, fun z => (S.tn b q).2 (ow b z)⟩, S.keep, S.dom, S.sB, S.tp⟩, ow, ow'⟩
  · obtain ⟨k1, k2⟩ := wipeE_get e
    obtain ⟨v, q1, q2⟩ := S.sh i d k2
    exact ⟨v, by rw [wipe_out' k1]; exact q1, q2.mono av⟩
  · obtain ⟨k1, k2⟩ := wipeE_get e
    obtain ⟨a, o, q2, q3, q4⟩ := S.ow i fl d k2 n
    exact ⟨a, o, by rw [wipe_out' k1]; exact q2, q3, q4.mono av⟩
  · obtain ⟨k1, k2⟩ := wipeE_get h1
    obtain ⟨k3, k4⟩ := wipeE_get h3
    rw [wipe_out' k1] at h5
    rw [wipe_out' k3] at h6
    exact S.dj i j f1 f2 d1 d2 a k2 h2 k4 h4 h5 h6
  · obtain ⟨k1, k2⟩ := wipeE_get h1
    rw [wipe_out' k1] at h2
    exact S.new i d a k2 h2
  · obtain ⟨k1, k2⟩ := wipeE_get h
    rw [wipe_out' k1]
    exact S.bx i d k2
/-- out of a turn: the block's own names as ahead -/
theorem Sim.backed (S : Sim P T σ ρ H) (hn : noOwn ρ is = true) (S2 : Sim P T σ2 ρ2 H2) (hw : ∀ j, j ∉ is → σ2[j]? = σ[j]?) (hl : ρ2.length = ρ.length) (st : Stp (wipe σ is) (wipeE ρ is) H σ2 ρ2 H2) :
    Sim P T σ (backE ρ ρ2 is) H2 ∧ Stp σ ρ H σ (backE ρ ρ2 is) H2 := by
  obtain ⟨_, w1, w2⟩ := S.wiped (is := is) hn
  have get : ∀ {j : Nat} {fl : Fl} {d : D}, (backE ρ ρ2 is)[j]? = some (some (fl, d)) → (j ∈ is ∧ fl = .sh ∧ ρ[j]? = some (some (fl, d))) ∨ (j ∉ is ∧ ρ2[j]? = some (some (fl, d)) ∧ σ2[j]? = σ[j]?) := fun {j fl d} h => by
    by_cases hj : j ∈ is
    · left
      have q := backE_in hj h
      obtain ⟨x, e, hx⟩ := noOwn_spec hn hj
      unfold slotAt at q
      rw [e] at q
      have q : some (fl, d) = x := q
      subst q
      exact ⟨hj, hx fl d rfl, e⟩
    · right
      rw [backE_out hj] at h
      exact ⟨hj, h, hw j hj⟩
  have ow : ∀ b, Own σ (backE ρ ρ2 is) b → Own σ2 ρ2 b := fun b ⟨j, fl, d, h1, h2, h3⟩ => by
    rcases get h1 with ⟨_, q, _⟩ | ⟨_, q1, q2⟩
    · exact absurd q h2
    · exact ⟨j, fl, d, q1, h2, by rw [q2]; exact h3⟩
  have st' : Stp σ ρ H σ (backE ρ ρ2 is) H2 := ⟨fun b o e n => st.fr b o e fun z => n (w1 b z), fun b z => (st.os b (ow b z)).imp (w1 b) id, st.dm⟩
  have av2 : ∀ a o, Av P T σ2 ρ2 a → H2 a = some o → Av P T σ (backE ρ ρ2 is) a ∧ H2 a = some o := fun a o ⟨h1, h2, h3⟩ e => ⟨⟨h1, fun z => h2 (ow a z), h3⟩, e⟩
  have av1 := av_step (P := P) st' (Tg.refl (T := T) (H := H))
  refine ⟨⟨by rw [backE_len, hl]; exact S.len, fun j d e => ?_, fun j fl d e n => ?_, fun i j f1 f2 d1 d2 a h1 h2 h3 h4 h5 h6 => ?_, fun j d a h1 h2 => ?_, fun j d h => ?_, fun b q => ⟨(S2.tn b q).1, fun z => (S2.tn b q).2 (ow b z)⟩, S2.keep, S2.dom, S2.sB, S2.tp⟩, st'⟩
  · rcases get e with ⟨_, _, q⟩ | ⟨_, q1, q2⟩
    · obtain ⟨v, k1, k2⟩ := S.sh j d q
      exact ⟨v, k1, k2.mono av1⟩
    · obtain ⟨v, k1, k2⟩ := S2.sh j d q1
      exact ⟨v, by rw [← q2]; exact k1, k2.mono av2⟩
  · rcases get e with ⟨_, q, _⟩ | ⟨_, q1, q2⟩
    · exact absurd q n
    · obtain ⟨a, o, k2, k3, k4⟩ := S2.ow j fl d q1 n
      exact ⟨a, o, by rw [← q2]; exact k2, k3, k4.mono av2⟩
  · rcases get h1 with ⟨_, q, _⟩ | ⟨_, q1, q2⟩
    · exact absurd q h2
    · rcases get h3 with ⟨_, q, _⟩ | ⟨_, q3, q4⟩
      · exact absurd q h4
      · exact S2.dj i j f1 f2 d1 d2 a q1 h2 q3 h4 (by rw [q2]; exact h5) (by rw [q4]; exact h6)
  · rcases get h1 with ⟨_, q, _⟩ | ⟨_, q1, q2⟩
    · cases q
    · exact S2.new j d a q1 (by rw [q2]; exact h2)
  · rcases get h with ⟨_, q, _⟩ | ⟨_, q1, q2⟩
    · cases q
    · rw [← q2]; exact S2.bx j d q1
end
end DL
set_option Elab.async false
set_option linter.all false
set_option maxRecDepth 100000
set_option maxHeartbeats 2000000
namespace DL
open PySem PySem.Spec PyProof.Rows L2
def WTs (X : Cx) (ifs : List Expr) (σ : SS) (H : Hp) (Q : Bool → Hp → Prop) : Prop := ∃ t, PTs X ifs t ∧ t σ H Q
theorem ptsW {X : Cx} {ifs : List Expr} : PTs X ifs (WTs X ifs) := ⟨fun pins s σ H Q I ⟨t, ht, h⟩ => ht.run pins s σ H Q I h⟩
def DTs (X : Cx) (ifs : List Expr) (f : Ft) : Prop :=
  ∀ P T σ ρ H b ρ', Sim P T σ ρ H → f ρ = some (b, ρ') → ∀ Q : Bool → Hp → Prop, (∀ H', Sim P T σ ρ' H' → Stp σ ρ H σ ρ' H' → Kp ρ ρ' → Q b H') → WTs X ifs σ H Q
theorem dts_nil {X : Cx} : DTs X [] ftrue := fun P T σ ρ H b ρ' S hf Q q => by
  cases hf
  exact ⟨_, pts_nil, q H S .refl .refl⟩
theorem dts_one {X : Cx} {c : Expr} {f : Ft} (h : DT X c f) : DTs X [c] f := fun P T σ ρ H b ρ' S hf Q q => ⟨_, pts_one ptW, h P T σ ρ H b ρ' S hf Q q⟩
section
variable {P : Pk} {T : Addr → Prop} {σ : SS} {ρ ρ1 ρ2 : En} {H H1 : Hp} {is : List Nat}
theorem back_get {j : Nat} (hn : noOwn ρ is = true) (hl : ρ2.length = ρ.length) (hj : j ∈ is) : (backE ρ ρ2 is)[j]? = ρ[j]? := by
  obtain ⟨x, e, hx⟩ := noOwn_spec hn hj
  have h1 : j < (backE ρ ρ2 is).length := by
    rw [backE_len, hl]
    exact (List.getElem?_eq_some_iff.mp e).1
  have e2 : (backE ρ ρ2 is)[j]? = some ((backE ρ ρ2 is)[j]) := List.getElem?_eq_getElem h1
  have q := backE_in hj e2
  rw [e2, q, e]
  unfold slotAt
  rw [e]
theorem noOwn_back (hn : noOwn ρ is = true) (hl : ρ2.length = ρ.length) : noOwn (backE ρ ρ2 is) is = true := by
  have key : ∀ i ∈ is, (backE ρ ρ2 is)[i]? = ρ[i]? := fun i hi => back_get hn hl hi
  refine List.all_eq_true.mpr fun i hi => ?_
  rw [key i hi]
  exact List.all_eq_true.mp hn i hi
theorem kp_back (hn : noOwn ρ is = true) (hl : ρ2.length = ρ.length) (kp : Kp (wipeE ρ is) ρ2) : Kp ρ (backE ρ ρ2 is) := fun j x h => by
  by_cases hj : j ∈ is
  · exact ⟨x, by rw [back_get hn hl hj]; exact h⟩
  · obtain ⟨y, e⟩ := kp j x (by rw [wipeE_out hj]; exact h)
    exact ⟨y, by rw [backE_out hj]; exact e⟩
theorem own_back {σ2 : SS} (hn : noOwn ρ is = true) (hw : ∀ j, j ∉ is → σ2[j]? = σ[j]?) {b : Addr} (h : Own σ (backE ρ ρ2 is) b) : Own σ2 ρ2 b := by
  obtain ⟨j, fl, d, h1, h2, h3⟩ := h
  by_cases hj : j ∈ is
  · have q := backE_in hj h1
    obtain ⟨x, e, hx⟩ := noOwn_spec hn hj
    unfold slotAt at q
    rw [e] at q
    exact absurd (hx fl d q.symm) h2
  · rw [backE_out hj] at h1
    exact ⟨j, fl, d, h1, h2, by rw [hw j hj]; exact h3⟩
/-- a temporary is written -/
theorem Sim.wtmp {a : Addr} {o : HO} (S : Sim P T σ ρ H) (ht : T a) (h0 : P.H0 a = none) (nt : ∀ xs, o ≠ .tup xs := by exact nofun) : Sim P T σ ρ (upd H a o) := by
  have av : ∀ b u, Av P T σ ρ b → H b = some u → Av P T σ ρ b ∧ upd H a o b = some u := fun b u h e => ⟨h, by rw [upd_ne (fun z => h.2.2 (by rw [z]; exact ht))]; exact e⟩
  have dm : ∀ b u, H b = some u → ∃ u', upd H a o b = some u' := fun b u e => by
    by_cases hb : b = a
    · subst hb; exact ⟨o, upd_same⟩
    · exact ⟨u, by rw [upd_ne hb]; exact e⟩
  refine { S with sh := fun i d e => ?_, ow := fun i fl d e n => ?_, tn := fun b q => ⟨?_, (S.tn b q).2⟩, keep := fun b u e n => ?_, dom := fun b u e => ?_, tp := fun b xs e => ?_ }
  · obtain ⟨v, q1, q2⟩ := S.sh i d e
    exact ⟨v, q1, q2.mono av⟩
  · obtain ⟨b, o1, q2, q3, q4⟩ := S.ow i fl d e n
    refine ⟨b, o1, q2, ?_, q4.mono av⟩
    rw [upd_ne (fun z => (S.tn a ht).2 ⟨i, fl, d, e, n, by rw [← z]; exact q2⟩)]
    exact q3
  · obtain ⟨u, e⟩ := (S.tn b q).1
    exact dm b u e
  · rw [upd_ne (fun z => by rw [z, h0] at e; cases e)]
    exact S.keep b u e n
  · obtain ⟨u', e'⟩ := S.dom b u e
    exact dm b u' e'
  · by_cases hb : b = a
    · subst hb
      rw [upd_same] at e
      exact absurd (Option.some.inj e) (nt xs)
    · rw [upd_ne hb] at e
      exact S.tp b xs e
theorem Stp.wtmp {σ' : SS} {ρ' : En} {H' : Hp} {a : Addr} {o : HO} (st : Stp σ ρ H σ' ρ' H') (hn : H a = none) : Stp σ ρ H σ' ρ' (upd H' a o) := by
  have na : ∀ b u, H b = some u → b ≠ a := fun b u e z => by rw [z, hn] at e; cases e
  exact ⟨fun b u e n => by rw [upd_ne (na b u e)]; exact st.fr b u e n, st.os, fun b u e => by
    obtain ⟨u', e'⟩ := st.dm b u e
    exact ⟨u', by rw [upd_ne (na b u e)]; exact e'⟩⟩
end
section
variable {X : Cx} {elt tg iter : Expr} {ifs : List Expr} {scope : Scope} {own : List (Str × Nat)} {is : List Nat} {pos : Pos} {g : Fi} {b : Fg} {t : Ft} {fe : Fe}
abbrev Blk (X : Cx) (scope : Scope) (Φ : Cx → Prop) : Prop := ∀ (s : Shared) (H : Hp) (C : Addr) (cl : List (Str × Addr)) (fp : List Addr), Φ (X.blk s H scope (compEnvC scope cl C X.env) fp)
def RG (X : Cx) (scope : Scope) (tg : Expr) : TG := fun v σ H Q => Blk X scope fun Y => WG Y tg v σ H Q
def RT (X : Cx) (scope : Scope) (ifs : List Expr) : TT := fun σ H Q => Blk X scope fun Y => WTs Y ifs σ H Q
def RE (X : Cx) (scope : Scope) (elt : Expr) : TE := fun σ H Q => Blk X scope fun Y => WE Y elt σ H Q
theorem pgB : Blk X scope fun Y => PG Y tg (RG X scope tg) := fun s H C cl fp => ⟨fun pins s' σ H' v u Q I r h => h s H C cl fp pins s' u I r⟩
theorem ptB : Blk X scope fun Y => PTs Y ifs (RT X scope ifs) := fun s H C cl fp => ⟨fun pins s' σ H' Q I h => ptsW.run pins s' σ H' Q I (h s H C cl fp)⟩
theorem peB : Blk X scope fun Y => PE Y elt (RE X scope elt) := fun s H C cl fp => ⟨fun pins s' σ H' Q I h => h s H C cl fp pins s' I⟩
theorem lc_D (hg : Blk X scope fun Y => DG Y tg is b) (ht : Blk X scope fun Y => DTs Y ifs t) (he : Blk X scope fun Y => DE Y elt fe) (hsub : ∀ i ∈ is, i ∈ own.map (·.2))
    {P T σ ρ H rv ρ'} (S : Sim P T σ ρ H) (hi : ∀ items ρ1, g ρ = some (items, ρ1) → ∀ R : It → Hp → Prop, (∀ J H' T', Sim P T' σ ρ1 H' → Stp σ ρ H σ ρ1 H' → Kp ρ ρ1 → Tg T H T' → Walk P T' σ ρ1 H' J items → R J H') → WI X tg iter σ H R) (hf : flc (own.map (·.2)) g b t fe ρ = some (rv, ρ')) {Q : VK} (q : ∀ v H' T', Aft P T σ ρ H rv ρ' v H' T' → Q v H') :
    tLc (WI X tg iter) (RG X scope tg) (RT X scope ifs) (RE X scope elt) (own.map (·.2)) σ H Q := by
  generalize hown : own.map (·.2) = vs at hf hsub ⊢
  simp only [flc, Option.bind_eq_some_iff] at hf
  obtain ⟨⟨items, ρ1⟩, e1, e2⟩ := hf
  by_cases hn : noOwn ρ1 vs = true
  · simp only [hn, if_true, Option.map_eq_some_iff] at e2
    obtain ⟨⟨res, ρ2⟩, e3, e4⟩ := e2
    obtain ⟨rfl, rfl⟩ := Prod.mk.inj e4
    refine hi items ρ1 e1 _ fun J H1 T1 S1 st1 kp1 tg1 W => ?_
    intro Dl hD
    obtain ⟨S1', st1'⟩ := S1.alloc (o := .lst []) hD
    refine ⟨fun i m H' => m = items.length - i ∧ i ≤ items.length ∧ ∃ ρi acc xs, Sim P (fun b => T1 b ∨ b = Dl) σ ρi H' ∧ Stp σ ρ1 H1 σ ρi H' ∧ H' Dl = some (.lst xs) ∧ RepA (Av P (fun b => T1 b ∨ b = Dl) σ ρi) H' xs acc ∧ noOwn ρi vs = true ∧ Kp ρ1 ρi ∧ lcD vs b t fe (items.drop i) ρi acc = some (res, ρ2),
      ⟨_, rfl, Nat.zero_le _, ρ1, [], [], S1', st1', upd_same, .nil, hn, .refl, e3⟩, ?_⟩
    rintro i m H2 ⟨rfl, hil, ρi, acc, xs, S2, st2, hDl, ra, hni, kpi, e5⟩
    have hfr : ∀ b o, H1 b = some o → ¬ Own σ ρ1 b → H2 b = some o := st2.fr
    by_cases hlt : i < items.length
    · right
      have hd : items.drop i = items[i] :: items.drop (i + 1) := List.drop_eq_getElem_cons hlt
      rw [hd] at e5
      simp only [lcD, Option.bind_eq_some_iff] at e5
      obtain ⟨ρ3, e6, ⟨c, ρ4⟩, e7, e8⟩ := e5
      refine ⟨W.go i H2 hfr hlt, fun H' => ∃ ρi acc xs, Sim P (fun b => T1 b ∨ b = Dl) σ ρi H' ∧ Stp σ ρ1 H1 σ ρi H' ∧ H' Dl = some (.lst xs) ∧ RepA (Av P (fun b => T1 b ∨ b = Dl) σ ρi) H' xs acc ∧ noOwn ρi vs = true ∧ Kp ρ1 ρi ∧ lcD vs b t fe (items.drop (i + 1)) ρi acc = some (res, ρ2),
        fun H' h => ⟨_, by omega, rfl, hlt, h⟩, fun x H3 hy => ?_⟩
      obtain ⟨up, d, ed, rd⟩ := W.yld i H2 hfr hlt x H3 hy
      have ed' : items[i] = d := by
        rw [List.getElem?_eq_getElem hlt] at ed; exact Option.some.inj ed
      rw [ed'] at e6
      obtain ⟨S3, st3⟩ := S2.grow .refl up (fun b hb => let ⟨o, e⟩ := (S2.tn b hb).1; ⟨o, up b o e⟩)
      obtain ⟨S3w, w1, w2⟩ := S3.wiped (is := vs) hni
      have rd' : Rep (Av P (fun b => T1 b ∨ b = Dl) (wipe σ vs) (wipeE ρi vs)) H3 x d := rd.mono fun a u h e => by
        refine ⟨?_, e⟩
        rcases h with ⟨⟨h1, h2, h3⟩, o', e'⟩ | h
        · refine ⟨h1, fun z => ?_, fun z => z.elim h3 fun z => ?_⟩
          · rcases st2.os a (w1 a z) with z | z
            · exact h2 z
            · rw [e'] at z; cases z
          · rw [z, hD] at e'; cases e'
        · refine ⟨.inr (h0_none S2 h), fun z => ?_, fun z => ?_⟩
          · obtain ⟨o', e'⟩ := own_dom S2 (w1 a z)
            rw [h] at e'; cases e'
          · obtain ⟨⟨o', e'⟩, _⟩ := S2.tn a z
            rw [h] at e'; cases e'
      intro s0 H0 C cl fp
      refine hg s0 H0 C cl fp P _ _ _ H3 x d ρ3 S3w rd' e6 _ fun σ4 H4 S4 st4 ch4 => ?_
      have hw4 : ∀ j, j ∉ vs → σ4[j]? = σ[j]? := fun j hj => by
        rw [ch4.2.1 j fun z => hj (hsub j z), wipe_out' hj]
      have hl4 : σ4.length = σ.length := by rw [ch4.1, wipe_length]
      refine ⟨wipe_eq hl4 hw4, fun s0 H0 C cl fp => ?_⟩
      refine ht s0 H0 C cl fp P _ σ4 ρ3 H4 c ρ4 S4 e7 _ fun H5 S5 st5 kp5 => ?_
      have len5 : ρ4.length = ρi.length := by rw [← S5.len, hl4]; exact S2.len
      cases c with
      | false =>
        rw [if_neg Bool.false_ne_true]
        simp only [Bool.false_eq_true, if_false] at e8
        have stw := st4.trans st5
        obtain ⟨S6, st6⟩ := S3.backed hni S5 hw4 len5 stw
        have hDo : ¬ Own σ ρi Dl := (S2.tn Dl (.inr rfl)).2
        have st26 := st3.trans st6
        refine ⟨_, acc, xs, S6, st2.trans st26, st26.fr Dl _ hDl hDo, ra.mono (av_step st26 .refl), ?_, ?_, e8⟩
        · exact noOwn_back hni len5
        · exact kpi.trans (kp_back hni len5 (ch4.2.2.trans kp5))
      | true =>
        rw [if_pos rfl]
        simp only [if_true, Option.bind_eq_some_iff] at e8
        obtain ⟨⟨r, ρ5⟩, e9, e, e10, ρ6, e11, e12⟩ := e8
        intro s0 H0 C cl fp
        refine he s0 H0 C cl fp P _ σ4 ρ4 H5 r ρ5 S5 e9 _ fun y H6 T6 A => ?_
        obtain ⟨st7, kp7⟩ := rel_stp (σ := σ4) (H := H6) e11
        have S7 := (A.sim.rel e11).less A.tx.tg.1
        have ry := A.val.toSh A.sim e11 e10 A.tx.tg.1 (tx_not1 A S5)
        have len7 : ρ6.length = ρi.length := by rw [← S7.len, hl4]; exact S2.len
        have stw := ((st4.trans st5).trans A.stp).trans st7
        obtain ⟨S8, st8⟩ := S3.backed hni S7 hw4 len7 stw
        have hDo : ¬ Own σ ρi Dl := (S2.tn Dl (.inr rfl)).2
        have st28 := st3.trans st8
        have hD8 : H6 Dl = some (.lst xs) := st28.fr Dl _ hDl hDo
        by_cases hz : acc.length < 16777216
        · rw [if_pos hz] at e12
          have h0 := h0_none S1 hD
          have ry' : Rep (Av P (fun b => T1 b ∨ b = Dl) σ (backE ρi ρ6 vs)) H6 y e := ry.mono fun a u ⟨h1, h2, h3⟩ e => by
            refine ⟨⟨h1, fun z => ?_, h3⟩, e⟩
            exact h2 (own_back hni hw4 z)
          have ra' := (ra.mono (av_step st28 .refl)).append (.cons ry' .nil)
          refine ⟨xs, hD8, by rw [ra.length, sizeLine_eq]; exact hz, _, acc ++ [e], xs ++ [y], S8.wtmp (.inr rfl) h0, (st2.trans st28).wtmp hD, upd_same, ra'.mono fun b u h e => ⟨h, by rw [upd_ne (fun z => h.2.2 (.inr z))]; exact e⟩, noOwn_back hni len7, kpi.trans (kp_back hni len7 (((ch4.2.2.trans kp5).trans A.kp).trans kp7)), e12⟩
        · rw [if_neg hz] at e12; cases e12
    · left
      have e : i = items.length := by omega
      subst e
      rw [List.drop_length] at e5
      cases e5
      have hDn : H Dl = none := by
        cases z : H Dl with
        | none => rfl
        | some o =>
          obtain ⟨o', e'⟩ := st1.dm Dl o z
          rw [hD] at e'; cases e'
      have hl : ∀ b, (T b ∨ b = Dl) → (T1 b ∨ b = Dl) := fun b z => z.elim (fun y => .inl (tg1.1 b y)) .inr
      exact ⟨W.stop H2 hfr, q _ H2 (fun b => T b ∨ b = Dl) ⟨S2.less hl, st1.trans st2, kp1.trans kpi, ⟨Dl, rfl, hDn, rfl⟩, Dl, _, rfl, .inr rfl, hDl, h0_none S1 hD, .lst (ra.mono fun a o ⟨h1, h2, h3⟩ e => ⟨⟨h1, h2, fun z => h3 (hl a z)⟩, e⟩)⟩⟩
  · rw [if_neg hn] at e2; cases e2
theorem de_lc (hc : X.calm = true) (hN : X.N.Nodup) (hi : DI X tg iter g) (ok : BlkOk X.N X.env.scope scope own) (hg : Blk X scope fun Y => DG Y tg is b) (ht : Blk X scope fun Y => DTs Y ifs t) (he : Blk X scope fun Y => DE Y elt fe) (hsub : ∀ i ∈ is, i ∈ own.map (·.2) := by decide)
    (hs : ∀ x, foldedSetIterable iter X.env x = pure x := by intro _; rfl) : DE X (.ListComp elt [⟨tg, iter, ifs, 0⟩] scope pos) (flc (own.map (·.2)) g b t fe) := by
  intro P T σ ρ H rv ρ' S hf Q q
  refine PE.we (pe_lc (own := own) hc hN piW ok pgB ptB peB hs) ?_
  exact lc_D hg ht he hsub S (fun items ρ1 e1 R q => hi P T σ ρ H items ρ1 S e1 R q) hf q
/-- name = [..] on one line -/
theorem ds_setLc {i : Nat} {y : Str} {py spos : Pos} (hc : X.calm = true) (hN : X.N.Nodup) (hi : DI X tg iter g) (ok : BlkOk X.N X.env.scope scope own) (hg : Blk X scope fun Y => DG Y tg is b) (ht : Blk X scope fun Y => DTs Y ifs t) (he : Blk X scope fun Y => DE Y elt fe)
    (hsw : swapsWith (.ListComp elt [⟨tg, iter, ifs, 0⟩] scope pos) (some (.Name y py)) spos.line X.env = pure true) (hy : X.N[i]? = some y := by rfl) (hyl : X.env.scope.names.lookup y = some .local := by rfl) (hsub : ∀ i ∈ is, i ∈ own.map (·.2) := by decide)
    (hs : ∀ x, foldedSetIterable iter X.env x = pure x := by intro _; rfl) : DS X (.Assign [.Name y py] (.ListComp elt [⟨tg, iter, ifs, 0⟩] scope pos) spos) (fset [i] (f1 (flc (own.map (·.2)) g b t fe))) := fun P T σ ρ H o S hf Ds q => by
  simp only [fset, Option.bind_eq_some_iff, Option.map_eq_some_iff] at hf
  obtain ⟨⟨rs, ρ1⟩, e1, ds, e2, ρ2, e3, ρ3, e4, e5⟩ := hf
  cases e5
  simp only [f1, Option.map_eq_some_iff] at e1
  obtain ⟨⟨r, ρ1'⟩, e6, e7⟩ := e1
  cases e7
  refine PS.ws (ps_setLc (own := own) hc hN hy hyl hsw piW ok pgB ptB peB hs) ?_
  refine lc_D hg ht he hsub S (fun items ρ1 e1 R q => hi P T σ ρ H items ρ1 S e1 R q) e6 fun v H1 T1 A => ?_
  have AA : AftA P T σ ρ H [r] ρ1' [v] H1 T1 := ⟨A.sim, A.stp, A.kp, A.tx.tg, ⟨fun d e => by
    subst e
    obtain ⟨a, z1, z2, _⟩ := A.tx
    exact ⟨a, z1, z2, fun i d' z => by simp at z⟩, trivial⟩, ⟨A.val, trivial⟩⟩
  obtain ⟨S3, st3⟩ := store_fin S AA e2 e3 e4
  exact q (σ.set i (some v)) H1 S3 st3
end
end DL
set_option Elab.async false
set_option linter.all false
set_option maxRecDepth 100000
set_option maxHeartbeats 2000000
namespace DL
open PySem PySem.Spec PyProof.Rows L2
def enA (bx : Option Nat) : Nat → List D → En
  | _, [] => []
  | i, d :: ds => some (if bx = some i then .bx else .sh, d) :: enA bx (i + 1) ds
def en0 (bx : Option Nat) (n : Nat) (ds : List D) : En := enA bx 0 ds ++ List.replicate (n - ds.length) none
def bxOf (bx : Option Nat) (ρ : En) : Option (List D) := match bx with
  | none => some []
  | some i => match ρ[i]? with
    | some (some (.bx, .list es)) => some es
    | _ => none
def retD (ρ : En) : RV → Option (Bool × D)
  | .sh d => some (false, d)
  | .fr d => some (true, d)
  | .al i => match ρ[i]? with
    | some (some (.ow, d)) => some (true, d)
    | some (some (.sh, d)) => some (false, d)
    | _ => none
def retO (bx : Option Nat) : Out → Option FR
  | .nx ρ => (bxOf bx ρ).map fun es => ⟨false, .none, es⟩
  | .rt r ρ => (retD ρ r).bind fun x => (bxOf bx ρ).map fun es => ⟨x.1, x.2, es⟩
  | _ => none
/-- the def's function on data: np parameters, n names in all -/
def toF (np n : Nat) (bx : Option Nat) (f : Fst) : FS := fun ds => if ds.length = np then (f (en0 bx n ds)).bind (retO bx) else none
theorem enA_len (bx : Option Nat) : ∀ (ds : List D) (i : Nat), (enA bx i ds).length = ds.length
  | [], _ => rfl
  | d :: ds, i => by simp [enA, enA_len bx ds]
theorem enA_get (bx : Option Nat) : ∀ (ds : List D) (i j : Nat) (x : Option (Fl × D)), (enA bx i ds)[j]? = some x → ∃ d, ds[j]? = some d ∧ x = some (if bx = some (i + j) then .bx else .sh, d)
  | [], i, j, x, h => by simp [enA] at h
  | d :: ds, i, 0, x, h => by simp [enA] at h; exact ⟨d, rfl, by rw [← h]; simp⟩
  | d :: ds, i, j + 1, x, h => by
    obtain ⟨e, h1, h2⟩ := enA_get bx ds (i + 1) j x (by simpa [enA] using h)
    exact ⟨e, by simpa using h1, by rw [h2, show i + 1 + j = i + (j + 1) by omega]⟩
theorem en0_get {bx : Option Nat} {n : Nat} {ds : List D} {j : Nat} {fl : Fl} {d : D} (h : (en0 bx n ds)[j]? = some (some (fl, d))) : ds[j]? = some d ∧ j < ds.length ∧ fl = if bx = some j then .bx else .sh := by
  unfold en0 at h
  by_cases hj : j < (enA bx 0 ds).length
  · rw [List.getElem?_append_left hj] at h
    obtain ⟨e, h1, h2⟩ := enA_get bx ds 0 j _ h
    cases h2
    rw [enA_len] at hj
    exact ⟨h1, hj, by rw [Nat.zero_add]⟩
  · rw [List.getElem?_append_right (by omega), List.getElem?_replicate] at h
    split at h <;> cases h
theorem start_get {N : List Str} {vs : List V} {j : Nat} (h : j < vs.length) : (start N vs)[j]? = some (vs[j]?) := by
  unfold L2.start
  rw [List.getElem?_append_left (by simpa using h), List.getElem?_map, List.getElem?_eq_getElem h]
  rfl
section
variable {H : Hp} {vs : List V} {ds : List D} {k : Option Nat} {S : Addr → Prop} {N : List Str}
theorem bxOf_spec {P : Pk} {T : Addr → Prop} {σ : SS} {ρ : En} {H' : Hp} {es : List D} (Si : Sim P T σ ρ H') (h : bxOf k ρ = some es) (hσ : P.σ0 = start N vs) (hlen : ∀ i, k = some i → i < vs.length) : ∀ b, IsBx k vs b → ∃ xs, H' b = some (.lst xs) ∧ RepA (Av P T σ ρ) H' xs es := fun b ⟨i, e1, e2⟩ => by
  subst e1
  unfold bxOf at h
  cases e : ρ[i]? with
  | none => simp only [e] at h; cases h
  | some x =>
    cases x with
    | none => simp only [e] at h; cases h
    | some y =>
      obtain ⟨fl, d⟩ := y
      cases fl with
      | sh => simp only [e] at h; cases h
      | ow => simp only [e] at h; cases h
      | bx =>
        obtain ⟨a, o, q2, q3, q4⟩ := Si.ow i .bx d e (by decide)
        cases q4 with
        | dct => simp only [e] at h; cases h
        | @lst xs es' q4 =>
        simp only [e] at h
        cases h
        have z := (Si.bx i _ e).1
        rw [q2, hσ, start_get (hlen i rfl), e2] at z
        cases z
        exact ⟨xs, q3, q4⟩
/-- the entry -/
theorem sim0 (A : ArgsOk k S H vs ds) (hlen : vs.length ≤ N.length) : Sim ⟨H, S, IsBx k vs, start N vs⟩ (fun _ => False) (start N vs) (en0 k N.length ds) H := by
  have g : ∀ {j : Nat} {fl : Fl} {d : D}, (en0 k N.length ds)[j]? = some (some (fl, d)) → ∃ v, ds[j]? = some d ∧ vs[j]? = some v ∧ (start N vs)[j]? = some (some v) ∧ fl = if k = some j then .bx else .sh := fun {j fl d} h => by
    obtain ⟨h1, h2, h3⟩ := en0_get h
    have hj : j < vs.length := by rw [A.len]; exact h2
    exact ⟨vs[j], h1, List.getElem?_eq_getElem hj, by rw [start_get hj, List.getElem?_eq_getElem hj], h3⟩
  have ow : ∀ b, Own (start N vs) (en0 k N.length ds) b → IsBx k vs b := fun b ⟨j, fl, d, h1, h2, h3⟩ => by
    obtain ⟨v, q1, q2, q3, q4⟩ := g h1
    rw [q3] at h3; cases h3
    by_cases hk : k = some j
    · exact ⟨j, hk, q2⟩
    · rw [if_neg hk] at q4; exact absurd q4 h2
  have bxS : ∀ b, IsBx k vs b → ¬ S b ∧ ∃ o, H b = some o := fun b ⟨i, e1, e2⟩ => by
    have hi : i < ds.length := by rw [← A.len]; exact (List.getElem?_eq_some_iff.mp e2).1
    obtain ⟨a, xs, es, q1, q2, q3, q4, q5⟩ := A.bx i _ _ e1 e2 (List.getElem?_eq_getElem hi)
    cases q1
    exact ⟨q5, _, q3⟩
  have av : ∀ b o, S b → H b = some o → Av ⟨H, S, IsBx k vs, start N vs⟩ (fun _ => False) (start N vs) (en0 k N.length ds) b ∧ H b = some o := fun b o h e => ⟨⟨.inl h, fun z => (bxS b (ow b z)).1 h, id⟩, e⟩
  refine ⟨?_, fun j d h => ?_, fun j fl d h n => ?_, fun i j f1 f2 d1 d2 a h1 h2 h3 h4 h5 h6 => ?_, fun j d a h h2 => ?_, fun j d h => ⟨rfl, fun a ha => ?_⟩, fun b z => z.elim, fun b o e _ => e, fun b o e => ⟨o, e⟩, bxS, fun b xs e => ⟨.inl (A.tp b xs e), id⟩⟩
  · unfold L2.start en0
    have := A.len
    simp only [List.length_append, List.length_map, List.length_replicate, enA_len]
    omega
  · obtain ⟨v, q1, q2, q3, q4⟩ := g h
    have hk : k ≠ some j := fun z => by rw [if_pos z] at q4; cases q4
    exact ⟨v, q3, (A.sh j v d hk q2 q1).mono av⟩
  · obtain ⟨v, q1, q2, q3, q4⟩ := g h
    by_cases hk : k = some j
    · obtain ⟨a, xs, es, z1, z2, z3, z4, _⟩ := A.bx j v d hk q2 q1
      subst z1
      rw [z2]
      exact ⟨a, _, q3, z3, .lst (z4.mono av)⟩
    · rw [if_neg hk] at q4; exact absurd q4 n
  · obtain ⟨_, _, _, _, q4⟩ := g h1
    obtain ⟨_, _, _, _, z4⟩ := g h3
    by_cases hi : k = some i
    · by_cases hj : k = some j
      · rw [hi] at hj; cases hj; rfl
      · rw [if_neg hj] at z4; exact absurd z4 h4
    · rw [if_neg hi] at q4; exact absurd q4 h2
  · obtain ⟨_, _, _, _, q4⟩ := g h
    split at q4 <;> cases q4
  · obtain ⟨v, q1, q2, q3, q4⟩ := g h
    rw [q3] at ha; cases ha
    by_cases hk : k = some j
    · exact ⟨j, hk, q2⟩
    · rw [if_neg hk] at q4; cases q4
end
section
variable {P : Program} {w : World} {K : PySem.W.Frag} {mg : Str → Option Value} {base : Heap}
abbrev BodyOk (P : Program) (w : World) (K : PySem.W.Frag) (mg : Str → Option Value) (base : Heap) (N : List Str) (qual : Str) (st : Stmt) (f : Addr) (k : Nat) (fb : Fst) : Prop :=
  ∀ (cdv : Value) (A : Around) (outer : List Env) (s : Shared) (H : Hp) (E : XK), RoomG k (A.deeper (envOfC qual (defScope st) s.heap.objs.size f cdv)) → DSs (cxOf CX0 P w K mg base N qual (defScope st) f cdv A outer s H E).nox (defBody st) fb
theorem okD {x qual : Str} {st : Stmt} {f : Addr} {fd : FuncData} {N ps : List Str} {lv : Nat} {k : Option Nat} {fb : Fst} (F : Fun K x qual st f fd) (Sc : FnScope N ps (defScope st)) (hb : BodyOk P w K mg base N qual st f lv fb) (hps : ps.length ≤ N.length := by decide) :
    FnG P w K mg base CX0 (lv + 1) f fd ps (spD k (toF ps.length N.length k fb)) := by
  have toFlen : ∀ {ds : List D} {r : FR}, toF ps.length N.length k fb ds = some r → ds.length = ps.length ∧ (fb (en0 k N.length ds)).bind (retO k) = some r := fun {ds r} h => by
    unfold toF at h
    by_cases hl : ds.length = ps.length
    · rw [if_pos hl] at h; exact ⟨hl, h⟩
    · rw [if_neg hl] at h; cases h
  refine fnG_of F Sc (fun vs H Q E h => ?_) (fun cdv A outer s H vs Q E hr h => ⟨_, pssW, ?_⟩)
  · obtain ⟨S, ds, r, h1, h2, _⟩ := h
    rw [h2.len, (toFlen h1).1]
  · obtain ⟨S, ds, r, h1, h2, q⟩ := h
    obtain ⟨hl, h1⟩ := toFlen h1
    simp only [Option.bind_eq_some_iff] at h1
    obtain ⟨o, e1, e2⟩ := h1
    have hvl : vs.length ≤ N.length := by rw [h2.len, hl]; exact hps
    have S0 := sim0 (N := N) h2 hvl
    refine hb cdv A outer s H E hr _ _ _ _ H o S0 e1 _ ?_
    have hkl : ∀ i, k = some i → ∀ b, vs[i]? = some (V.ref b) → i < vs.length := fun i _ b e => (List.getElem?_eq_some_iff.mp e).1
    have bxs : ∀ {T : Addr → Prop} {σ' : SS} {ρ' : En} {H' : Hp} {es : List D}, Sim ⟨H, S, IsBx k vs, start N vs⟩ T σ' ρ' H' → bxOf k ρ' = some es → ∀ b, IsBx k vs b → ∃ xs, H' b = some (.lst xs) ∧ RepA (Av ⟨H, S, IsBx k vs, start N vs⟩ T σ' ρ') H' xs es := fun Si hb' b hib => by
      obtain ⟨i, e3, e4⟩ := id hib
      exact bxOf_spec (N := N) Si hb' rfl (fun i' e5 => by rw [e3] at e5; cases e5; exact hkl i e3 b e4) b hib
    have nw : ∀ {T : Addr → Prop} {σ' : SS} {ρ' : En} {H' : Hp}, ∀ b u, Av ⟨H, S, IsBx k vs, start N vs⟩ T σ' ρ' b → H' b = some u → Nw S H T b ∧ H' b = some u := fun b u h e => ⟨⟨h.1, h.2.2⟩, e⟩
    cases o with
    | bk ρ' => cases e2
    | ct ρ' => cases e2
    | nx ρ' =>
      intro σ' H' S' st'
      simp only [retO, Option.map_eq_some_iff] at e2
      obtain ⟨es, e3, e4⟩ := e2
      cases e4
      refine q .non H' (fun _ => False) ⟨S'.keep, S'.dom, fun b z => z.elim, fun _ => .non, fun z => (nomatch z), fun b hb' => ?_⟩
      obtain ⟨xs, z1, z2⟩ := bxs S' e3 b hb'
      exact ⟨xs, z1, z2.mono nw⟩
    | rt rv ρ' =>
      intro v σ' H' T' S' st' tx V0
      simp only [retO, Option.bind_eq_some_iff, Option.map_eq_some_iff] at e2
      obtain ⟨⟨fr, d⟩, e3, es, e4, e5⟩ := e2
      cases e5
      have bxe := fun b hb' => bxs S' e4 b hb'
      cases rv with
      | sh d' =>
        cases e3
        cases tx
        refine q v H' (fun _ => False) ⟨S'.keep, S'.dom, fun b z => z.elim, fun _ => Rep.mono V0 nw, fun z => (nomatch z), fun b hb' => ?_⟩
        obtain ⟨xs, z1, z2⟩ := bxe b hb'
        exact ⟨xs, z1, z2.mono nw⟩
      | fr d' =>
        cases e3
        obtain ⟨a, ea, hn, hT⟩ := tx
        have hT' : ∀ b, T' b ↔ b = a := fun b => by rw [hT]; simp
        refine q v H' T' ⟨S'.keep, S'.dom, fun b z => ?_, fun z => (nomatch z), fun _ => ?_, fun b hb' => ?_⟩
        · rw [(hT' b).mp z]; exact hn
        · obtain ⟨a', o, z1, z3, z4, z5, z6⟩ := V0
          exact ⟨a', o, z1, z3, z4, z6.mono nw⟩
        · obtain ⟨xs, z1, z2⟩ := bxe b hb'
          exact ⟨xs, z1, z2.mono nw⟩
      | al i =>
        cases tx
        obtain ⟨eσ, x, ex⟩ := V0
        obtain ⟨fl, dd⟩ := x
        cases fl with
        | bx => simp only [retD, ex] at e3; cases e3
        | sh =>
          simp only [retD, ex] at e3; cases e3
          obtain ⟨v', q1, q2⟩ := S'.sh i _ ex
          rw [eσ] at q1; cases q1
          refine q v H' (fun _ => False) ⟨S'.keep, S'.dom, fun b z => z.elim, fun _ => q2.mono nw, fun z => (nomatch z), fun b hb' => ?_⟩
          obtain ⟨xs, z1, z2⟩ := bxe b hb'
          exact ⟨xs, z1, z2.mono nw⟩
        | ow =>
          simp only [retD, ex] at e3; cases e3
          obtain ⟨a, o, q2, q3, q4⟩ := S'.ow i .ow _ ex (by decide)
          rw [eσ] at q2; cases q2
          have ha : H a = none := S'.new i _ a ex eσ
          have hoa : Own σ' ρ' a := ⟨i, .ow, _, ex, by decide, eσ⟩
          have nwa : ∀ b u, Av ⟨H, S, IsBx k vs, start N vs⟩ (fun _ => False) σ' ρ' b → H' b = some u → Nw S H (fun b => b = a) b ∧ H' b = some u := fun b u h e => ⟨⟨h.1, fun z => h.2.1 (by rw [z]; exact hoa)⟩, e⟩
          refine q _ H' (fun b => b = a) ⟨S'.keep, S'.dom, fun b z => by rw [z]; exact ha, fun z => (nomatch z), fun _ => ⟨a, o, rfl, rfl, q3, q4.mono nwa⟩, fun b hb' => ?_⟩
          obtain ⟨ys, z1, z2⟩ := bxe b hb'
          exact ⟨ys, z1, z2.mono nwa⟩
end
end DL
set_option Elab.async false
set_option linter.all false
set_option maxRecDepth 100000
set_option maxHeartbeats 2000000
namespace DL
open PySem PySem.Spec PyProof.Rows L2
theorem line_le {n : Nat} (h : n ≤ 16777216) : n ≤ sizeLine := by rw [sizeLine_eq]; exact h
theorem line_lt {n : Nat} (h : n < 16777216) : n < sizeLine := by rw [sizeLine_eq]; exact h
section
variable {S : Addr → Prop} {H : Hp} {v : V}
theorem top_bool {b : Bool} (h : Top S H v (.bool b)) : v = .bl b := by cases (show Rep _ _ _ _ from h); rfl
theorem top_none (h : Top S H v .none) : v = .non := by cases (show Rep _ _ _ _ from h); rfl
theorem top_str {x : Str} (h : Top S H v (.str x)) : v = .str x := by cases (show Rep _ _ _ _ from h); rfl
theorem top_tup {ds : List D} (h : Top S H v (.tuple ds)) : ∃ a xs, v = .ref a ∧ Rd H a (.tup xs) ∧ RepA S H xs ds := by
  cases (show Rep _ _ _ _ from h) with
  | tup h1 h2 h3 => exact ⟨_, _, rfl, .inl h2, h3⟩
theorem top_tupR {ds : List D} (h : Top S H v (.tuple ds)) : Rep S H v (.tuple ds) := h
theorem top_lst {ds : List D} (h : Top S H v (.list ds)) : ∃ a xs, v = .ref a ∧ Rd H a (.lst xs) ∧ RepA S H xs ds := h
end
section
variable {X : Cx}
theorem Inv.lstR {pins : List (Addr × Obj)} {σ : SS} {H : Hp} {s : Shared} {l : Addr} {xs : List V} (I : Inv X pins σ H s) (h : Rd H l (.lst xs)) : xs.length ≤ sizeLine ∧ ∃ (its : List Value) (n : Nat), Vals xs its ∧ xs.length = its.length ∧ s.heap.get? l = some { cls := .type "list", data := .seq its.toArray n } := by
  obtain ⟨z, its, n, r, e⟩ := h.ok I.hok
  exact ⟨z, its, n, r, r.length, e⟩
def rCatL : R2 := fun x y H Q => ∃ l b xs zs, x = .ref l ∧ y = .ref b ∧ Rd H l (.lst xs) ∧ Rd H b (.lst zs) ∧ xs.length + zs.length ≤ sizeLine ∧ ∀ p, H p = none → Q (.ref p) (upd H p (.lst (xs ++ zs)))
theorem op_catL : OpR X (binaryOp .Add) rCatL := by
  intro pins s σ H x y v u Q I rx ry h
  obtain ⟨l, b, xs, zs, rfl, rfl, hH, hB, hz, q⟩ := h
  cases rx
  cases ry
  obtain ⟨z, its, n, r, hl, e⟩ := Inv.lstR I hH
  obtain ⟨z2, its2, n2, r2, hl2, e2⟩ := Inv.lstR I hB
  refine PySem.P.add_list e e2 ?_ (by rw [List.size_toArray, List.size_toArray]; omega)
  have ea : its.toArray ++ its2.toArray = (its ++ its2).toArray := by simp
  rw [ea]
  exact ⟨.ref _, _, I.lnew (t' := s.toks) (r.append r2) (by rw [List.length_append]; omega), rfl, q _ I.fresh⟩
end
def gI (f : Int → Int → Int) : D → D → Option OutV := fun x y => match x, y with
  | .int i, .int j => some (.it (.int (f i j)))
  | _, _ => none
def gIb (f : Int → Int → Bool) : D → D → Option OutV := fun x y => match x, y with
  | .int i, .int j => some (.it (.bool (f i j)))
  | _, _ => none
instance (i j : Int) : Decidable (CMul i j) := by unfold CMul; infer_instance
instance (i j : Int) : Decidable (CMulW i j) := by unfold CMulW; infer_instance
instance (i j : Int) : Decidable (CDiv i j) := by unfold CDiv; infer_instance
instance (i j : Int) : Decidable (CDivW i j) := by unfold CDivW; infer_instance
instance (i j : Int) : Decidable (CPow i j) := by unfold CPow; infer_instance
theorem op2_I {f : Int → Int → Int} : Op2 (rI0 fun i j => .int (f i j)) (gI f) := by
  intro S H x y dx dy o hx hy h
  match dx, dy, h with
  | .int i, .int j, h =>
    cases h
    cases top_int hx
    cases top_int hy
    exact Does.int fun Q q => ⟨i, j, rfl, rfl, q⟩
theorem op2_Ib {f : Int → Int → Bool} : Op2 (rI0 fun i j => .bl (f i j)) (gIb f) := by
  intro S H x y dx dy o hx hy h
  match dx, dy, h with
  | .int i, .int j, h =>
    cases h
    cases top_int hx
    cases top_int hy
    exact Does.bl fun Q q => ⟨i, j, rfl, rfl, q⟩
abbrev gSub := gI (· - ·)
abbrev gLt := gIb fun i j => decide (i < j)
abbrev gLe := gIb fun i j => decide (i ≤ j)
abbrev gGt := gIb fun i j => decide (j < i)
abbrev gGe := gIb fun i j => decide (j ≤ i)
def gFdiv : D → D → Option OutV := fun x y => match x, y with
  | .int i, .int j => if CDiv i j ∨ CDivW i j then some (.it (.int (i / j))) else none
  | _, _ => none
def gMod : D → D → Option OutV := fun x y => match x, y with
  | .int i, .int j => if 0 < j then some (.it (.int (i % j))) else none
  | _, _ => none
def gPow : D → D → Option OutV := fun x y => match x, y with
  | .int i, .int j => if CPow i j then some (.it (.int (i ^ j.toNat))) else none
  | _, _ => none
def gNeg : D → Option OutV := fun x => match x with
  | .int i => some (.it (.int (-i)))
  | _ => none
def gAdd : D → D → Option OutV := fun x y => match x, y with
  | .int i, .int j => some (.it (.int (i + j)))
  | .list xs, .list ys => if xs.length + ys.length ≤ 16777216 then some (.nl (xs ++ ys)) else none
  | .tuple [], .tuple ys => if ys.length ≤ 16777216 then some (.it (.tuple ys)) else none
  | .tuple (x :: xs), .tuple [] => if (x :: xs).length ≤ 16777216 then some (.it (.tuple (x :: xs))) else none
  | .tuple (x :: xs), .tuple (y :: ys) => if (x :: xs).length + (y :: ys).length ≤ 16777216 then some (.nt ((x :: xs) ++ (y :: ys))) else none
  | .str x, .str y => if x.length + y.length ≤ 16777216 then some (.it (.str (x ++ y))) else none
  | _, _ => none
def rAdd (K : PySem.W.Frag) : R2 := fun x y H Q => (rI0 fun i j => .int (i + j)) x y H Q ∨ rCatL x y H Q ∨ rCatA K x y H Q ∨ (∃ i j, x = .str i ∧ y = .str j ∧ i.length + j.length ≤ sizeLine ∧ Q (.str (i ++ j)) H)
theorem op_add' {X : Cx} : OpR X (binaryOp .Add) (rAdd X.K) := op_add.or (op_catL.or (op_catA.or op_add_str))
theorem op2_add {K : PySem.W.Frag} : Op2 (rAdd K) gAdd := by
  intro S H x y dx dy o hx hy h
  match dx, dy, h with
  | .int i, .int j, h =>
    cases h
    cases top_int hx
    cases top_int hy
    exact Does.int fun Q q => .inl ⟨i, j, rfl, rfl, q⟩
  | .list xs, .list ys, h =>
    obtain ⟨a, us, rfl, r1, r2⟩ := top_lst hx
    obtain ⟨b, ws, rfl, r3, r4⟩ := top_lst hy
    have h : (if xs.length + ys.length ≤ 16777216 then some (OutV.nl (xs ++ ys)) else none) = some o := h
    by_cases hz : xs.length + ys.length ≤ 16777216
    · rw [if_pos hz] at h; cases h
      exact ⟨us ++ ws, r2.append r4, fun Q q => .inr (.inl ⟨a, b, us, ws, rfl, rfl, r1, r3, by rw [r2.length, r4.length]; exact line_le hz, q⟩)⟩
    · rw [if_neg hz] at h; cases h
  | .tuple [], .tuple ys, h =>
    obtain ⟨a, us, rfl, r1, r2⟩ := top_tup hx
    obtain ⟨b, ws, rfl, r3, r4⟩ := top_tup hy
    cases r2
    have h : (if ys.length ≤ 16777216 then some (OutV.it (.tuple ys)) else none) = some o := h
    by_cases hz : ys.length ≤ 16777216
    · rw [if_pos hz] at h; cases h
      exact ⟨_, top_tupR hy, fun Q q => .inr (.inr (.inl ⟨a, b, [], ws, rfl, rfl, .inl r1, .inl r3, by rw [r4.length, List.length_nil, Nat.zero_add]; exact line_le hz, fun _ => q, fun z => (z rfl).elim, fun z => (z rfl).elim⟩))⟩
    · rw [if_neg hz] at h; cases h
  | .tuple (d :: xs), .tuple [], h =>
    obtain ⟨a, us, rfl, r1, r2⟩ := top_tup hx
    obtain ⟨b, ws, rfl, r3, r4⟩ := top_tup hy
    cases r4
    have h : (if (d :: xs).length ≤ 16777216 then some (OutV.it (.tuple (d :: xs))) else none) = some o := h
    by_cases hz : (d :: xs).length ≤ 16777216
    · rw [if_pos hz] at h; cases h
      have n1 : us ≠ [] := fun z => by subst z; cases r2
      exact ⟨_, top_tupR hx, fun Q q => .inr (.inr (.inl ⟨a, b, us, [], rfl, rfl, .inl r1, .inl r3, by rw [r2.length, List.length_nil, Nat.add_zero]; exact line_le hz, fun z => (n1 z).elim, fun _ _ => q, fun _ z => (z rfl).elim⟩))⟩
    · rw [if_neg hz] at h; cases h
  | .tuple (d :: xs), .tuple (e :: ys), h =>
    obtain ⟨a, us, rfl, r1, r2⟩ := top_tup hx
    obtain ⟨b, ws, rfl, r3, r4⟩ := top_tup hy
    have h : (if (d :: xs).length + (e :: ys).length ≤ 16777216 then some (OutV.nt ((d :: xs) ++ (e :: ys))) else none) = some o := h
    by_cases hz : (d :: xs).length + (e :: ys).length ≤ 16777216
    · rw [if_pos hz] at h; cases h
      have n1 : us ≠ [] := fun z => by subst z; cases r2
      have n2 : ws ≠ [] := fun z => by subst z; cases r4
      exact ⟨us ++ ws, r2.append r4, fun Q q => .inr (.inr (.inl ⟨a, b, us, ws, rfl, rfl, .inl r1, .inl r3, by rw [r2.length, r4.length]; exact line_le hz, fun z => (n1 z).elim, fun _ z => (n2 z).elim, fun _ _ => q⟩))⟩
    · rw [if_neg hz] at h; cases h
  | .str i, .str j, h =>
    cases top_str hx
    cases top_str hy
    have h : (if i.length + j.length ≤ 16777216 then some (OutV.it (.str (i ++ j))) else none) = some o := h
    by_cases hz : i.length + j.length ≤ 16777216
    · rw [if_pos hz] at h; cases h
      exact ⟨_, .str _, fun Q q => .inr (.inr (.inr ⟨i, j, rfl, rfl, line_le hz, q⟩))⟩
    · rw [if_neg hz] at h; cases h
/-- guarded results -/
theorem guard_of {c : Prop} [Decidable c] {α : Type} {a b : α} (h : (if c then some a else none) = some b) : c ∧ a = b := by
  by_cases hc : c
  · rw [if_pos hc] at h; exact ⟨hc, Option.some.inj h⟩
  · rw [if_neg hc] at h; cases h
theorem op2_fdiv : Op2 (fun x y H Q => (rI CDiv fun i j => .int (i / j)) x y H Q ∨ (rI CDivW fun i j => .int (i / j)) x y H Q) gFdiv := by
  intro S H x y dx dy o hx hy h
  match dx, dy, h with
  | .int i, .int j, h =>
    obtain ⟨hc, rfl⟩ := guard_of (show (if CDiv i j ∨ CDivW i j then some (OutV.it (.int (i / j))) else none) = some o from h)
    cases top_int hx
    cases top_int hy
    exact Does.int fun Q q => hc.elim (fun hc => .inl ⟨i, j, rfl, rfl, hc, q⟩) fun hc => .inr ⟨i, j, rfl, rfl, hc, q⟩
theorem op2_mod : Op2 (rI (fun _ j => 0 < j) fun i j => .int (i % j)) gMod := by
  intro S H x y dx dy o hx hy h
  match dx, dy, h with
  | .int i, .int j, h =>
    obtain ⟨hc, rfl⟩ := guard_of (show (if 0 < j then some (OutV.it (.int (i % j))) else none) = some o from h)
    cases top_int hx
    cases top_int hy
    exact Does.int fun Q q => ⟨i, j, rfl, rfl, hc, q⟩
theorem op2_pow : Op2 (rI CPow fun i j => .int (i ^ j.toNat)) gPow := by
  intro S H x y dx dy o hx hy h
  match dx, dy, h with
  | .int i, .int j, h =>
    obtain ⟨hc, rfl⟩ := guard_of (show (if CPow i j then some (OutV.it (.int (i ^ j.toNat))) else none) = some o from h)
    cases top_int hx
    cases top_int hy
    exact Does.int fun Q q => ⟨i, j, rfl, rfl, hc, q⟩
theorem op1_neg : Op1 (rU fun i => .int (-i)) gNeg := by
  intro S H x dx o hx h
  match dx, h with
  | .int i, h =>
    cases h
    cases top_int hx
    exact Does.int fun Q q => ⟨i, rfl, q⟩
theorem op_fdiv' {X : Cx} : OpR X (binaryOp .FloorDiv) (fun x y H Q => (rI CDiv fun i j => .int (i / j)) x y H Q ∨ (rI CDivW fun i j => .int (i / j)) x y H Q) := op_fdiv.or op_fdivW
def rMul : R2 := fun x y H Q => (rI CMul fun i j => .int (i * j)) x y H Q ∨ (rI CMulW fun i j => .int (i * j)) x y H Q ∨ rRep x y H Q
theorem op_mul' {X : Cx} : OpR X (binaryOp .Mult) rMul := op_mul.or (op_mulW.or op_rep)
def gMul : D → D → Option OutV := fun x y => match x, y with
  | .int i, .int j => if CMul i j ∨ CMulW i j then some (.it (.int (i * j))) else none
  | _, _ => none
theorem op2_mul : Op2 rMul gMul := by
  intro S H x y dx dy o hx hy h
  match dx, dy, h with
  | .int i, .int j, h =>
    obtain ⟨hc, rfl⟩ := guard_of (show (if CMul i j ∨ CMulW i j then some (OutV.it (.int (i * j))) else none) = some o from h)
    cases top_int hx
    cases top_int hy
    exact Does.int fun Q q => hc.elim (fun hc => .inl ⟨i, j, rfl, rfl, hc, q⟩) fun hc => .inr (.inl ⟨i, j, rfl, rfl, hc, q⟩)
/-- a new list times an int -/
def frep (fa fb : Fe) : Fe := fun ρ => (fa ρ).bind fun x => (fb x.2).bind fun y => (dat y.2 y.1).bind fun db => match x.1, db with
  | .fr (.list xs), .int k => if -(2 ^ 63) ≤ k ∧ k < 2 ^ 63 ∧ xs.length * k.toNat ≤ 16777216 then some (.fr (.list (List.replicate k.toNat xs).flatten), y.2) else none
  | _, _ => none
theorem de_rep {X : Cx} {a b : Expr} {fa fb : Fe} {pos : Pos} (ha : DE X a fa) (hb : DE X b fb) : DE X (.BinOp a .Mult b pos) (frep fa fb) := by
  intro P T σ ρ H rv ρ' S hf Q q
  simp only [frep, Option.bind_eq_some_iff] at hf
  obtain ⟨⟨ra, ρ1⟩, h1, ⟨rb, ρ2⟩, h2, db, h4, h5⟩ := hf
  match ra, db, h1, h4, h5 with
  | .fr (.list xs), .int k, h1, h4, h5 =>
    obtain ⟨hc, h6⟩ := guard_of (show (if -(2 ^ 63) ≤ k ∧ k < 2 ^ 63 ∧ xs.length * k.toNat ≤ 16777216 then some (RV.fr (.list (List.replicate k.toNat xs).flatten), ρ2) else none) = some (rv, ρ') from h5)
    cases h6
    refine PE.we (pe_op op_rep peW peW) (ha P T σ ρ H _ ρ1 S h1 _ fun v H1 T1 A1 => hb P T1 σ ρ1 H1 rb _ A1.sim h2 _ fun w H2 T2 A2 => ?_)
    have V1 := A1.val.step A1.sim A2.stp A2.kp A2.tx.tg
    obtain ⟨a', o', e1, ta, hHa, hn, hr⟩ := V1
    subst e1
    cases hr with
    | @lst us _ hr =>
    cases top_int (A2.val.top A2.sim h4)
    refine does_fin (o := .nl (List.replicate k.toNat xs).flatten) (w := fun Q => rRep (.ref a') (.int k) H2 Q) A2.sim (A1.stp.trans A2.stp) (A1.kp.trans A2.kp) (A1.tx.tg.trans A2.tx.tg A1.stp.dm) ⟨(List.replicate k.toNat us).flatten, hr.rep k.toNat, fun Q hq => ?_⟩ q
    exact ⟨a', k, us, rfl, rfl, hHa, hc.1, hc.2.1, by rw [hr.length]; exact line_le hc.2.2, hq⟩
end DL
set_option Elab.async false
set_option linter.all false
set_option maxRecDepth 100000
set_option maxHeartbeats 2000000
namespace DL
open PySem PySem.Spec PyProof.Rows L2
mutual
theorem Rep.dp {S : Addr → Prop} {K : PySem.W.Frag} {H : Hp} : ∀ (d : D) (v : V), PyData.canLay0 d = true → Rep S H v d → Dp K H v d
  | .none, _, _, r => by cases r; exact .non
  | .bool b, _, _, r => by cases r; exact .bl b
  | .int i, _, _, r => by cases r; exact .int i
  | .str x, _, _, r => by cases r; exact .str x
  | .list ds, _, c, r => by cases r with | lst h1 h2 h3 => exact .lst (.inl h2) (RepA.dp ds _ (by simpa only [PyData.canLay0] using c) h3)
  | .tuple ds, _, c, r => by cases r with | tup h1 h2 h3 => exact .tup (.inl (.inl h2)) (RepA.dp ds _ (by simpa only [PyData.canLay0] using c) h3)
  | .dict _, _, c, r => by simp only [PyData.canLay0] at c; cases c
theorem RepA.dp {S : Addr → Prop} {K : PySem.W.Frag} {H : Hp} : ∀ (ds : List D) (vs : List V), PyData.canLayAll0 ds = true → RepA S H vs ds → DpAll K H vs ds
  | [], _, _, r => by cases r; exact .nil
  | d :: ds, _, c, r => by
    simp only [PyData.canLayAll0, Bool.and_eq_true] at c
    cases r with | cons r1 r2 => exact .cons (Rep.dp d _ c.1 r1) (RepA.dp ds _ c.2 r2)
end
theorem Top.dp {S : Addr → Prop} {K : PySem.W.Frag} {H : Hp} {v : V} {d : D} (hs : SeqAt.shaped d = true) (h : Top S H v d) : Dp K H v d := by
  have c := SeqAt.canLay_of_shaped hs
  cases d with
  | list ds =>
    obtain ⟨a, xs, rfl, h2, h3⟩ := top_lst h
    exact .lst (.inl h2) (RepA.dp ds _ (by simpa only [PyData.canLay0] using c) h3)
  | dict _ => simp only [PyData.canLay0] at c; cases c
  | _ => exact Rep.dp _ _ c h
/-- is == told here: flat data by itself, else by the shape -/
def eqDD (x y : D) : Option Bool := match x, y with
  | .int i, .int j => some (decide (i = j))
  | .bool i, .bool j => some (decide (i = j))
  | .none, .none => some true
  | .str i, .str j => some (decide (i = j))
  | x, y => if SeqAt.shaped x && SeqAt.shaped y then some (PyData.eqv x y) else none
def gEq : D → D → Option OutV := fun x y => (eqDD x y).map fun b => .it (.bool b)
def gNe : D → D → Option OutV := fun x y => (eqDD x y).map fun b => .it (.bool (!b))
def rEqA (K : PySem.W.Frag) : R2 := fun x y H Q => rEq x y H Q ∨ rEqD K x y H Q
def rNeA (K : PySem.W.Frag) : R2 := fun x y H Q => rNe x y H Q ∨ rNeD K x y H Q
theorem op_eqA {X : Cx} (hu : X.A.units + 64 < cLine) : OpR X (compareOp .Eq) (rEqA X.K) := op_eq.or (op_eqD hu)
theorem op_neA {X : Cx} (hu : X.A.units + 64 < cLine) : OpR X (compareOp .NotEq) (rNeA X.K) := op_ne.or (op_neD hu)
theorem eqDD_spec {S : Addr → Prop} {K : PySem.W.Frag} {H : Hp} {x y : V} {dx dy : D} {b : Bool} (hx : Top S H x dx) (hy : Top S H y dy) (h : eqDD dx dy = some b) :
    (scal x y = true ∧ decide (x = y) = b) ∨ (Dp K H x dx ∧ Dp K H y dy ∧ SeqAt.shaped dx = true ∧ SeqAt.shaped dy = true ∧ PyData.eqv dx dy = b) := by
  have gen : (if SeqAt.shaped dx && SeqAt.shaped dy then some (PyData.eqv dx dy) else none) = some b → (scal x y = true ∧ decide (x = y) = b) ∨ (Dp K H x dx ∧ Dp K H y dy ∧ SeqAt.shaped dx = true ∧ SeqAt.shaped dy = true ∧ PyData.eqv dx dy = b) := fun h => by
    obtain ⟨hc, rfl⟩ := guard_of h
    rw [Bool.and_eq_true] at hc
    exact .inr ⟨hx.dp hc.1, hy.dp hc.2, hc.1, hc.2, rfl⟩
  unfold eqDD at h
  split at h
  · cases h; cases top_int hx; cases top_int hy; exact .inl ⟨rfl, by simp⟩
  · cases h; cases top_bool hx; cases top_bool hy; exact .inl ⟨rfl, by simp⟩
  · cases h; cases top_none hx; cases top_none hy; exact .inl ⟨rfl, by simp⟩
  · cases h; cases top_str hx; cases top_str hy; exact .inl ⟨rfl, by simp⟩
  · exact gen h
theorem op2_eq {K : PySem.W.Frag} : Op2 (rEqA K) gEq := by
  intro S H x y dx dy o hx hy h
  simp only [gEq, Option.map_eq_some_iff] at h
  obtain ⟨b, h1, rfl⟩ := h
  refine Does.bl fun Q q => ?_
  rcases eqDD_spec (K := K) hx hy h1 with ⟨z1, z2⟩ | ⟨z1, z2, z3, z4, z5⟩
  · exact .inl ⟨z1, by rw [z2]; exact q⟩
  · exact .inr ⟨dx, dy, z1, z2, z3, z4, by rw [z5]; exact q⟩
theorem op2_ne {K : PySem.W.Frag} : Op2 (rNeA K) gNe := by
  intro S H x y dx dy o hx hy h
  simp only [gNe, Option.map_eq_some_iff] at h
  obtain ⟨b, h1, rfl⟩ := h
  refine Does.bl fun Q q => ?_
  rcases eqDD_spec (K := K) hx hy h1 with ⟨z1, z2⟩ | ⟨z1, z2, z3, z4, z5⟩
  · exact .inl ⟨z1, by rw [z2]; exact q⟩
  · exact .inr ⟨dx, dy, z1, z2, z3, z4, by rw [z5]; exact q⟩
def isNone : D → Bool
  | .none => true
  | _ => false
/-- is, beside None, True, False -/
def gIs : D → D → Option OutV := fun x y => match y with
  | .none => some (.it (.bool (isNone x)))
  | .bool b => match x with
    | .bool a => some (.it (.bool (decide (a = b))))
    | _ => none
  | _ => none
def rIsA : R2 := fun x y H Q => (y = .non ∧ Q (.bl (decide (x = .non))) H) ∨ rIsB x y H Q
theorem op_isA {X : Cx} : OpR X (compareOp .Is) rIsA := op_isN.or op_isBl
theorem top_non {S : Addr → Prop} {H : Hp} {x : V} {d : D} (h : Top S H x d) : decide (x = .non) = isNone d := by
  cases d with
  | none => cases top_none h; rfl
  | bool b => cases top_bool h; rfl
  | int i => cases top_int h; rfl
  | str s => cases top_str h; rfl
  | list ds => obtain ⟨a, xs, rfl, _⟩ := top_lst h; rfl
  | tuple ds => obtain ⟨a, xs, rfl, _⟩ := top_tup h; rfl
  | dict ds => obtain ⟨a, rfl, _⟩ := (show ∃ a, x = .ref a ∧ (isX ds = false → ∃ o ps, RdK H a o ∧ dOf o = some ps ∧ RepK S H ps ds) ∧ (isX ds = true → Rep S H (.ref a) (.dict ds)) from h); rfl
theorem op2_is : Op2 rIsA gIs := by
  intro S H x y dx dy o hx hy h
  match dy, h with
  | .none, h =>
    cases h
    cases top_none hy
    exact Does.bl fun Q q => .inl ⟨rfl, by rw [top_non hx]; exact q⟩
  | .bool b, h =>
    match dx, h with
    | .bool a, h =>
      cases h
      cases top_bool hx
      cases top_bool hy
      exact Does.bl fun Q q => .inr ⟨a, b, rfl, rfl, q⟩
def gIx : D → D → Option OutV := fun x y => match x, y with
  | .list ds, .int i => (atI ds i).map .it
  | .tuple ds, .int i => (atI ds i).map .it
  | _, _ => none
theorem atI_rep {S : Addr → Prop} {H : Hp} {vs : List V} {ds : List D} {i : Int} {d : D} (r : RepA S H vs ds) (h : atI ds i = some d) : ∃ v, atI vs i = some v ∧ Rep S H v d := by
  unfold atI at h ⊢
  rw [r.length]
  cases e : ixN ds.length i with
  | none => rw [e] at h; cases h
  | some j =>
    rw [e] at h
    exact r.get' h
theorem op2_ix {K : PySem.W.Frag} : Op2 (rIx K) gIx := by
  intro S H x y dx dy o hx hy h
  match dx, dy, h with
  | .list ds, .int i, h =>
    have h : (atI ds i).map OutV.it = some o := h
    simp only [Option.map_eq_some_iff] at h
    obtain ⟨d, h1, rfl⟩ := h
    obtain ⟨a, xs, rfl, h2, h3⟩ := top_lst hx
    cases top_int hy
    obtain ⟨v, h4, h5⟩ := atI_rep h3 h1
    exact ⟨v, h5, fun Q q => .inl ⟨a, xs, i, v, rfl, rfl, .inl h2, h4, q⟩⟩
  | .tuple ds, .int i, h =>
    have h : (atI ds i).map OutV.it = some o := h
    simp only [Option.map_eq_some_iff] at h
    obtain ⟨d, h1, rfl⟩ := h
    obtain ⟨a, xs, rfl, h2, h3⟩ := top_tup hx
    cases top_int hy
    obtain ⟨v, h4, h5⟩ := atI_rep h3 h1
    exact ⟨v, h5, fun Q q => .inr (.inl ⟨a, xs, i, v, rfl, rfl, .inl h2, h4, q⟩)⟩
def cutD (xs : List D) (lo hi : Option Int) : List D := (xs.drop (HT.sIx xs.length 0 lo)).take (HT.sIx xs.length xs.length hi - HT.sIx xs.length 0 lo)
def gSl (x : D) (lo hi : Option Int) : Option OutV := match x with
  | .list ds => some (.nl (cutD ds lo hi))
  | .tuple ds => if HT.sIx ds.length 0 lo = 0 ∧ HT.sIx ds.length ds.length hi = ds.length then some (.it (.tuple ds)) else some (.nt (cutD ds lo hi))
  | _ => none
theorem cut_rep {S : Addr → Prop} {H : Hp} {vs : List V} {ds : List D} {lo hi : Option Int} (r : RepA S H vs ds) : RepA S H (cutV vs lo hi) (cutD ds lo hi) := by
  unfold cutV cutD
  rw [r.length]
  exact (r.drop _).take _
def rSlB (K : PySem.W.Frag) : V → Option Int → Option Int → Hp → VK → Prop := fun x lo hi H Q => rSlL K x lo hi H Q ∨ rSlA K x lo hi H Q
theorem sl_B {X : Cx} : SlR X (rSlB X.K) := sl_list.or sl_tupA
theorem sl_spec {K : PySem.W.Frag} {S : Addr → Prop} {H : Hp} {x : V} {dx : D} {lo hi : Option Int} {o : OutV} (hx : Top S H x dx) (h : gSl dx lo hi = some o) : Does S H o (rSlB K x lo hi H) := by
  match dx, h with
  | .list ds, h =>
    cases h
    obtain ⟨a, xs, rfl, h2, h3⟩ := top_lst hx
    exact ⟨_, cut_rep h3, fun Q q => .inl ⟨a, xs, rfl, .inl h2, q⟩⟩
  | .tuple ds, h =>
    obtain ⟨a, xs, rfl, h2, h3⟩ := top_tup hx
    have h : (if HT.sIx ds.length 0 lo = 0 ∧ HT.sIx ds.length ds.length hi = ds.length then some (OutV.it (.tuple ds)) else some (.nt (cutD ds lo hi))) = some o := h
    by_cases hw : HT.sIx ds.length 0 lo = 0 ∧ HT.sIx ds.length ds.length hi = ds.length
    · rw [if_pos hw] at h; cases h
      exact ⟨_, top_tupR hx, fun Q q => .inr ⟨a, xs, rfl, .inl h2, fun _ => q, fun z => (z (by rw [h3.length]; exact hw)).elim⟩⟩
    · rw [if_neg hw] at h; cases h
      exact ⟨_, cut_rep h3, fun Q q => .inr ⟨a, xs, rfl, .inl h2, fun z => (hw (by rw [← h3.length]; exact z)).elim, fun _ => q⟩⟩
/-- an end of a slice -/
abbrev Fo := En → Option (Option Int × En)
def fonone : Fo := fun ρ => some (none, ρ)
def fosome (f : Fe) : Fo := fun ρ => (f ρ).bind fun x => match dat x.2 x.1 with
  | some (.int i) => some (some i, x.2)
  | _ => none
def WO (X : Cx) (e : Option Expr) (σ : SS) (H : Hp) (Q : Option Int → Hp → Prop) : Prop := ∃ t, PO X e t ∧ t σ H Q
theorem poW {X : Cx} {e : Option Expr} : PO X e (WO X e) := ⟨fun pins s σ H Q I ⟨t, ht, h⟩ => ht.run pins s σ H Q I h⟩
def DO (X : Cx) (e : Option Expr) (f : Fo) : Prop :=
  ∀ P T σ ρ H i ρ', Sim P T σ ρ H → f ρ = some (i, ρ') → ∀ Q : Option Int → Hp → Prop, (∀ H', Sim P T σ ρ' H' → Stp σ ρ H σ ρ' H' → Kp ρ ρ' → Q i H') → WO X e σ H Q
def fslice (f : Fe) (lo hi : Fo) : Fe := fun ρ => (f ρ).bind fun x => (lo x.2).bind fun y => (hi y.2).bind fun z => (dat z.2 x.1).bind fun d => (gSl d y.1 z.1).map fun o => (rvOf o, z.2)
section
variable {X : Cx} {e : Expr} {fe : Fe} {lo hi : Option Expr} {fl fh : Fo} {pos p2 : Pos}
theorem do_none : DO X none fonone := fun P T σ ρ H i ρ' S hf Q q => by
  cases hf
  exact ⟨_, po_none, q H S .refl .refl⟩
theorem do_some (h : DE X e fe) : DO X (some e) (fosome fe) := fun P T σ ρ H i ρ' S hf Q q => by
  simp only [fosome, Option.bind_eq_some_iff] at hf
  obtain ⟨⟨r, ρ1⟩, e1, e2⟩ := hf
  cases e3 : dat ρ1 r with
  | none => simp only [e3] at e2; cases e2
  | some d =>
    cases d with
    | int k =>
      simp only [e3] at e2
      cases e2
      refine ⟨_, po_some peW, h P T σ ρ H r _ S e1 _ fun v H1 T1 A => ?_⟩
      cases top_int (A.val.top A.sim e3)
      exact ⟨k, rfl, q H1 (A.sim.less A.tx.tg.1) A.stp A.kp⟩
    | _ => simp only [e3] at e2; cases e2
theorem de_slice (he : DE X e fe) (hl : DO X lo fl) (hh : DO X hi fh) : DE X (.Subscript e (.Slice lo hi none p2) pos) (fslice fe fl fh) := by
  intro P T σ ρ H rv ρ' S hf Q q
  simp only [fslice, Option.bind_eq_some_iff, Option.map_eq_some_iff] at hf
  obtain ⟨⟨r, ρ1⟩, e1, ⟨i, ρ2⟩, e2, ⟨j, ρ3⟩, e3, d, e4, o, e5, e6⟩ := hf
  cases e6
  refine PE.we (pe_slice sl_B peW poW poW) (he P T σ ρ H r ρ1 S e1 _ fun v H1 T1 A => hl P T1 σ ρ1 H1 i ρ2 A.sim e2 _ fun H2 S2 st2 kp2 => hh P T1 σ ρ2 H2 j _ S2 e3 _ fun H3 S3 st3 kp3 => ?_)
  have V3 := A.val.step A.sim (st2.trans st3) (kp2.trans kp3) .refl
  exact does_fin S3 (A.stp.trans (st2.trans st3)) (A.kp.trans (kp2.trans kp3)) A.tx.tg (sl_spec (V3.top S3 e4) e5) q
end
end DL
set_option Elab.async false
set_option linter.all false
set_option maxRecDepth 100000
set_option maxHeartbeats 2000000
namespace DL
open PySem PySem.Spec PyProof.Rows L2
theorem topA1 {S : Addr → Prop} {H : Hp} {xs : List V} {d : D} (h : TopA S H xs [d]) : ∃ x, xs = [x] ∧ Top S H x d := by
  cases h with
  | cons h1 h2 => cases h2; exact ⟨_, rfl, h1⟩
theorem topA2 {S : Addr → Prop} {H : Hp} {xs : List V} {d e : D} (h : TopA S H xs [d, e]) : ∃ x y, xs = [x, y] ∧ Top S H x d ∧ Top S H y e := by
  cases h with
  | cons h1 h2 =>
    cases h2 with
    | cons h2 h3 => cases h3; exact ⟨_, _, rfl, h1, h2⟩
def gLen : List D → Option OutV
  | [.list ds] => some (.it (.int (ds.length : Nat)))
  | [.tuple ds] => some (.it (.int (ds.length : Nat)))
  | [.str x] => if x.length ≤ 16777216 then some (.it (.int (x.length : Nat))) else none
  | _ => none
def rLen (K : PySem.W.Frag) : List V → Hp → VK → Prop := fun xs H Q => ∃ x n, xs = [x] ∧ LenV K x H n ∧ Q (.int n) H
theorem opA_len {K : PySem.W.Frag} : OpA (rLen K) gLen := by
  intro S H xs ds o hx h
  match ds, h with
  | [.list es], h =>
    cases h
    obtain ⟨x, rfl, ht⟩ := topA1 hx
    obtain ⟨a, us, rfl, h1, h2⟩ := top_lst ht
    exact Does.int fun Q q => ⟨_, us.length, rfl, .inl ⟨us, .inl h1, rfl⟩, by rw [h2.length]; exact q⟩
  | [.tuple es], h =>
    cases h
    obtain ⟨x, rfl, ht⟩ := topA1 hx
    obtain ⟨a, us, rfl, h1, h2⟩ := top_tup ht
    exact Does.int fun Q q => ⟨_, us.length, rfl, .inr ⟨us, .inl h1, rfl⟩, by rw [h2.length]; exact q⟩
  | [.str y], h =>
    obtain ⟨hc, rfl⟩ := guard_of (show (if y.length ≤ 16777216 then some (OutV.it (.int (y.length : Nat))) else none) = some o from h)
    obtain ⟨x, rfl, ht⟩ := topA1 hx
    cases top_str ht
    exact Does.int fun Q q => ⟨_, y.length, rfl, ⟨line_le hc, rfl⟩, q⟩
def gList : List D → Option OutV
  | [.list ds] => some (.nl ds)
  | [.tuple ds] => some (.nl ds)
  | _ => none
def rListOf (K : PySem.W.Frag) : List V → Hp → VK → Prop := fun xs H Q => ∃ p ys, xs = [.ref p] ∧ (SqL K H p ys ∨ SqT K H p ys) ∧ ∀ l, H l = none → Q (.ref l) (upd H l (.lst ys))
theorem opA_list {K : PySem.W.Frag} : OpA (rListOf K) gList := by
  intro S H xs ds o hx h
  match ds, h with
  | [.list es], h =>
    cases h
    obtain ⟨x, rfl, ht⟩ := topA1 hx
    obtain ⟨a, us, rfl, h1, h2⟩ := top_lst ht
    exact ⟨us, h2, fun Q q => ⟨a, us, rfl, .inl (.inl h1), q⟩⟩
  | [.tuple es], h =>
    cases h
    obtain ⟨x, rfl, ht⟩ := topA1 hx
    obtain ⟨a, us, rfl, h1, h2⟩ := top_tup ht
    exact ⟨us, h2, fun Q q => ⟨a, us, rfl, .inr (.inl h1), q⟩⟩
def gTuple : List D → Option OutV
  | [.list ds] => some (.nt ds)
  | [.tuple ds] => some (.it (.tuple ds))
  | _ => none
def rTupleOf (K : PySem.W.Frag) : List V → Hp → VK → Prop := fun xs H Q => ∃ p ys, xs = [.ref p] ∧ ((SqL K H p ys ∧ ∀ l, H l = none → Q (.ref l) (upd H l (.tup ys))) ∨ (SqT K H p ys ∧ Q (.ref p) H))
theorem opA_tuple {K : PySem.W.Frag} : OpA (rTupleOf K) gTuple := by
  intro S H xs ds o hx h
  match ds, h with
  | [.list es], h =>
    cases h
    obtain ⟨x, rfl, ht⟩ := topA1 hx
    obtain ⟨a, us, rfl, h1, h2⟩ := top_lst ht
    exact ⟨us, h2, fun Q q => ⟨a, us, rfl, .inl ⟨.inl h1, q⟩⟩⟩
  | [.tuple es], h =>
    cases h
    obtain ⟨x, rfl, ht⟩ := topA1 hx
    obtain ⟨a, us, rfl, h1, h2⟩ := top_tup ht
    exact ⟨_, top_tupR ht, fun Q q => ⟨a, us, rfl, .inr ⟨.inl h1, q⟩⟩⟩
def boolsOf : List D → Option (List Bool)
  | [] => some []
  | .bool b :: ds => (boolsOf ds).map (b :: ·)
  | _ => none
def intsOf : List D → Option (List Int)
  | [] => some []
  | .int i :: ds => (intsOf ds).map (i :: ·)
  | _ => none
theorem boolsOf_spec : ∀ {ds : List D} {bs : List Bool}, boolsOf ds = some bs → ds = bs.map .bool
  | [], bs, h => by cases h; rfl
  | .bool b :: ds, bs, h => by
    simp only [boolsOf, Option.map_eq_some_iff] at h
    obtain ⟨cs, h1, rfl⟩ := h
    rw [boolsOf_spec h1]; rfl
  | .none :: _, _, h => by cases h
  | .int _ :: _, _, h => by cases h
  | .str _ :: _, _, h => by cases h
  | .list _ :: _, _, h => by cases h
  | .tuple _ :: _, _, h => by cases h
  | .dict _ :: _, _, h => by cases h
theorem intsOf_spec : ∀ {ds : List D} {bs : List Int}, intsOf ds = some bs → ds = bs.map .int
  | [], bs, h => by cases h; rfl
  | .int b :: ds, bs, h => by
    simp only [intsOf, Option.map_eq_some_iff] at h
    obtain ⟨cs, h1, rfl⟩ := h
    rw [intsOf_spec h1]; rfl
  | .none :: _, _, h => by cases h
  | .bool _ :: _, _, h => by cases h
  | .str _ :: _, _, h => by cases h
  | .list _ :: _, _, h => by cases h
  | .tuple _ :: _, _, h => by cases h
  | .dict _ :: _, _, h => by cases h
theorem RepA.bools {S : Addr → Prop} {H : Hp} : ∀ {vs : List V} {ns : List Bool}, RepA S H vs (ns.map .bool) → vs = ns.map V.bl
  | _, [], r => by cases r; rfl
  | _, n :: ns, r => by
    cases r with
    | cons r1 r2 => cases r1; rw [RepA.bools r2]; rfl
def gAll : List D → Option OutV
  | [.list ds] => (boolsOf ds).map fun bs => .it (.bool (bs.all id))
  | _ => none
theorem opA_all {K : PySem.W.Frag} : OpA (rAll K) gAll := by
  intro S H xs ds o hx h
  match ds, h with
  | [.list es], h =>
    simp only [gAll, Option.map_eq_some_iff] at h
    obtain ⟨bs, h1, rfl⟩ := h
    obtain ⟨x, rfl, ht⟩ := topA1 hx
    obtain ⟨a, us, rfl, h2, h3⟩ := top_lst ht
    rw [boolsOf_spec h1] at h3
    exact Does.bl fun Q q => ⟨a, bs, rfl, by rw [← h3.bools]; exact .inl h2, q⟩
def minI : List Int → Int
  | [] => 0
  | [i] => i
  | i :: j :: js => min i (minI (j :: js))
theorem minI_spec : ∀ (ns : List Int) (m : Int), m ∈ ns → (∀ y ∈ ns, m ≤ y) → m = minI ns
  | [], m, h, _ => by cases h
  | [i], m, h, _ => by simp at h; exact h
  | i :: j :: js, m, h, hm => by
    have key : ∀ (ks : List Int), ks ≠ [] → minI ks ∈ ks ∧ ∀ y ∈ ks, minI ks ≤ y := by
      intro ks
      induction ks with
      | nil => intro h; exact absurd rfl h
      | cons k ks ih =>
        intro _
        cases ks with
        | nil => simp [minI]
        | cons l ls =>
          obtain ⟨a1, a2⟩ := ih (by simp)
          simp only [minI]
          refine ⟨?_, fun y hy => ?_⟩
          · rcases Int.le_total k (minI (l :: ls)) with z | z
            · rw [Int.min_eq_left z]; exact List.mem_cons_self
            · rw [Int.min_eq_right z]; exact List.mem_cons_of_mem _ a1
          · rcases List.mem_cons.mp hy with rfl | hy
            · omega
            · have := a2 y hy; omega
    obtain ⟨k1, k2⟩ := key (i :: j :: js) (by simp)
    have := hm _ k1
    have := k2 m h
    omega
def gMin : List D → Option OutV
  | [.int i, .int j] => some (.it (.int (min i j)))
  | [.list ds] => match intsOf ds with
    | some (n :: ns) => some (.it (.int (minI (n :: ns))))
    | _ => none
  | _ => none
def rMinA (K : PySem.W.Frag) : List V → Hp → VK → Prop := fun xs H Q => (∃ i j, xs = [.int i, .int j] ∧ Q (.int (if j < i then j else i)) H) ∨ rMin K xs H Q
theorem call_minA {X : Cx} (hc : X.calm = true) : CallR X (.builtin "min") (rMinA X.K) := (call_min2 hc).or (cr_min hc)
theorem opA_min {K : PySem.W.Frag} : OpA (rMinA K) gMin := by
  intro S H xs ds o hx h
  match ds, h with
  | [.int i, .int j], h =>
    cases h
    obtain ⟨x, y, rfl, h1, h2⟩ := topA2 hx
    cases top_int h1
    cases top_int h2
    refine Does.int fun Q q => .inl ⟨i, j, rfl, ?_⟩
    have : (if j < i then j else i) = min i j := by split <;> omega
    rw [this]; exact q
  | [.list es], h =>
    simp only [gMin] at h
    cases e : intsOf es with
    | none => rw [e] at h; cases h
    | some ns =>
      cases ns with
      | nil => rw [e] at h; cases h
      | cons n ns =>
        rw [e] at h; cases h
        obtain ⟨x, rfl, ht⟩ := topA1 hx
        obtain ⟨a, us, rfl, h2, h3⟩ := top_lst ht
        rw [intsOf_spec e] at h3
        exact Does.int fun Q q => .inr ⟨a, n :: ns, rfl, by rw [← h3.ints]; exact .inl h2, by simp, fun m hm hy => by rw [minI_spec _ m hm hy]; exact q⟩
def gAbs : List D → Option OutV
  | [.int i] => some (.it (.int (if i < 0 then -i else i)))
  | _ => none
theorem opA_abs : OpA (fun xs H Q => ∃ i, xs = [.int i] ∧ Q (.int (if i < 0 then -i else i)) H) gAbs := by
  intro S H xs ds o hx h
  match ds, h with
  | [.int i], h =>
    cases h
    obtain ⟨x, rfl, h1⟩ := topA1 hx
    cases top_int h1
    exact Does.int fun Q q => ⟨i, rfl, q⟩
def gInt : List D → Option OutV
  | [.int i] => some (.it (.int i))
  | [.bool b] => some (.it (.int (if b then 1 else 0)))
  | _ => none
theorem opA_int : OpA (fun xs H Q => (∃ i, xs = [.int i] ∧ Q (.int i) H) ∨ ∃ k, xs = [.bl k] ∧ Q (.int (if k then 1 else 0)) H) gInt := by
  intro S H xs ds o hx h
  match ds, h with
  | [.int i], h =>
    cases h
    obtain ⟨x, rfl, h1⟩ := topA1 hx
    cases top_int h1
    exact Does.int fun Q q => .inl ⟨i, rfl, q⟩
  | [.bool i], h =>
    cases h
    obtain ⟨x, rfl, h1⟩ := topA1 hx
    cases top_bool h1
    exact Does.int fun Q q => .inr ⟨i, rfl, q⟩
def flrg1 (f : Fe) : Fe := fun ρ => (f ρ).bind fun x => match dat x.2 x.1 with
  | some (.int n) => if -(2 ^ 62) ≤ n ∧ n ≤ 16777216 then some (.fr (.list (rgD 0 1 n.toNat)), x.2) else none
  | _ => none
theorem rgV_rep {S : Addr → Prop} {H : Hp} {a b : Int} : RepA S H (rgV a b) (rgD a 1 (b - a).toNat) := by
  have e : rgD a 1 (b - a).toNat = ((List.range (b - a).toNat).map fun i : Nat => a + (i : Int)).map .int := by
    unfold rgD
    rw [List.map_map]
    refine List.map_congr_left fun i _ => ?_
    simp
  have e2 : rgV a b = ((List.range (b - a).toNat).map fun i : Nat => a + (i : Int)).map V.int := by
    unfold rgV
    rw [List.map_map]
    rfl
  rw [e, e2]
  exact RepA.of_ints _
theorem de_lrg1 {X : Cx} {a : Expr} {fe : Fe} {p pos p2 pos2 : Pos} (hc : X.calm = true) (hg : Gl X "list") (hm : X.mg "list" = none) (hg2 : Gl X "range") (hm2 : X.mg "range" = none) (ha : DE X a fe) (na : starEach [a] X.env = (false, eval a X.env) :: starEach [] X.env := by rfl)
    (na2 : starEach [.Call (.Name "range" p2) [a] [] pos2] X.env = (false, eval (.Call (.Name "range" p2) [a] [] pos2) X.env) :: starEach [] X.env := by rfl) : DE X (.Call (.Name "list" p) [.Call (.Name "range" p2) [a] [] pos2] [] pos) (flrg1 fe) := by
  intro P T σ ρ H rv ρ' S hf Q q
  simp only [flrg1, Option.bind_eq_some_iff] at hf
  obtain ⟨⟨r, ρ1⟩, e1, e2⟩ := hf
  cases e3 : dat ρ1 r with
  | none => simp only [e3] at e2; cases e2
  | some d =>
    cases d with
    | int n =>
      simp only [e3] at e2
      obtain ⟨hn, e4⟩ := guard_of e2
      cases e4
      refine PE.we (pe_listRg hc hg hm (prg_1 hg2 hm2 peW na) na2) (ha P T σ ρ H r _ S e1 _ fun v H1 T1 A => ?_)
      cases top_int (A.val.top A.sim e3)
      refine ⟨n, rfl, ⟨by omega, by omega, by omega, by omega, by omega⟩, fun p hp => ?_⟩
      exact does_fin (o := .nl (rgD 0 1 n.toNat)) (w := fun Q => ∀ p, H1 p = none → Q (.ref p) (upd H1 p (.lst (rgV 0 n)))) A.sim A.stp A.kp A.tx.tg ⟨rgV 0 n, by have := rgV_rep (S := Av P T1 σ ρ') (H := H1) (a := 0) (b := n); rwa [Int.sub_zero] at this, fun Q hq => hq⟩ q p hp
    | _ => simp only [e3] at e2; cases e2
def flrg2 (f f2 : Fe) : Fe := fun ρ => (f ρ).bind fun x => (f2 x.2).bind fun y => match dat y.2 x.1, dat y.2 y.1 with
  | some (.int m), some (.int n) => if 0 ≤ m ∧ m ≤ 16777216 ∧ -(2 ^ 62) ≤ n ∧ n ≤ 16777216 then some (.fr (.list (rgD m 1 (n - m).toNat)), y.2) else none
  | _, _ => none
theorem de_lrg2 {X : Cx} {a b : Expr} {fe f2 : Fe} {p pos p2 pos2 : Pos} (hc : X.calm = true) (hg : Gl X "list") (hm : X.mg "list" = none) (hg2 : Gl X "range") (hm2 : X.mg "range" = none) (ha : DE X a fe) (hb : DE X b f2) (na : starEach [a, b] X.env = (false, eval a X.env) :: starEach [b] X.env := by rfl) (nb : starEach [b] X.env = (false, eval b X.env) :: starEach [] X.env := by rfl) (npl : (backTo pos2 (starEach [b] X.env)).any (·.1) = false := by rfl)
    (na2 : starEach [.Call (.Name "range" p2) [a, b] [] pos2] X.env = (false, eval (.Call (.Name "range" p2) [a, b] [] pos2) X.env) :: starEach [] X.env := by rfl) : DE X (.Call (.Name "list" p) [.Call (.Name "range" p2) [a, b] [] pos2] [] pos) (flrg2 fe f2) := by
  intro P T σ ρ H rv ρ' S hf Q q
  simp only [flrg2, Option.bind_eq_some_iff] at hf
  obtain ⟨⟨r, ρ1⟩, e1, ⟨r2, ρ2⟩, e0, e2⟩ := hf
  split at e2
  · rename_i m n e3 e4
    obtain ⟨hn, e5⟩ := guard_of e2
    cases e5
    refine PE.we (pe_listRg hc hg hm (prg_2 hg2 hm2 peW peW na nb npl) na2) (ha P T σ ρ H r _ S e1 _ fun v H1 T1 A1 => hb P T1 σ ρ1 H1 r2 _ A1.sim e0 _ fun u H2 T2 A2 => ?_)
    have V1 := A1.val.step A1.sim A2.stp A2.kp A2.tx.tg
    cases top_int (V1.top A2.sim e3)
    cases top_int (A2.val.top A2.sim e4)
    refine ⟨m, n, rfl, rfl, ⟨by omega, by omega, by omega, by omega, by omega⟩, fun p hp => ?_⟩
    exact does_fin (o := .nl (rgD m 1 (n - m).toNat)) (w := fun Q => ∀ p, H2 p = none → Q (.ref p) (upd H2 p (.lst (rgV m n)))) A2.sim (A1.stp.trans A2.stp) (A1.kp.trans A2.kp) (A1.tx.tg.trans A2.tx.tg A1.stp.dm) ⟨rgV m n, rgV_rep, fun Q hq => hq⟩ q p hp
  · cases e2
def tyD : D → String
  | .none => "NoneType"
  | .bool _ => "bool"
  | .int _ => "int"
  | .str _ => "str"
  | .list _ => "list"
  | .tuple _ => "tuple"
  | .dict _ => "dict"
def isXD : D → Bool
  | .dict es => isX es
  | _ => false
theorem top_ty {S : Addr → Prop} {K : PySem.W.Frag} {H : Hp} {x : V} {d : D} (h : Top S H x d) (nx : isXD d = false) : TyX K H x (.type (tyD d)) := by
  cases d with
  | none => cases top_none h; exact .base .non
  | bool b => cases top_bool h; exact .base (.bl b)
  | int i => cases top_int h; exact .base (.int i)
  | str s => cases top_str h; exact .base (.str s)
  | list ds =>
    obtain ⟨a, xs, rfl, h1, _⟩ := top_lst h
    rcases h1 with h1 | ⟨o, h1⟩
    · exact .base (.lst h1)
    · exact .base (.frz h1)
  | tuple ds =>
    obtain ⟨a, xs, rfl, h1, _⟩ := top_tup h
    rcases h1 with h1 | ⟨o, h1⟩
    · exact .base (.tup h1)
    · exact .fTuple h1
  | dict ds =>
    obtain ⟨a, rfl, h3, _⟩ := (show ∃ a, x = .ref a ∧ (isX ds = false → ∃ o ps, RdK H a o ∧ dOf o = some ps ∧ RepK S H ps ds) ∧ (isX ds = true → Rep S H (.ref a) (.dict ds)) from h)
    obtain ⟨o, ps, h1, h2, _⟩ := h3 nx
    cases o with
    | dK kvs =>
      rcases h1 with h1 | ⟨od, _, _, h1⟩
      · exact .base (.dK h1)
      · exact .fDict h1
    | dT kvs =>
      rcases h1 with h1 | ⟨od, _, e, _⟩
      · exact .base (.dT h1)
      · cases e
    | _ => cases h2
/-- is a value of the type ty one of the type t -/
def isTy (t ty : String) : Bool := ty == t || (t == "int" && ty == "bool")
theorem kit_isTy {K : PySem.W.Frag} {t : String} (ht : t ∈ ["int", "bool", "str", "list", "tuple"]) (d : D) : PySem.W.kitOne K (.type (tyD d)) (.type t) = some (isTy t (tyD d)) := by
  have h : ∀ ty ∈ ["NoneType", "bool", "int", "str", "list", "tuple", "dict"], ∀ t ∈ ["int", "bool", "str", "list", "tuple"], kitB ty t = some (isTy t ty) := by decide +kernel
  exact kit_ty (h _ (by cases d <;> simp [tyD]) t ht)
def gIsi (t : String) : D → Option OutV := fun d => if isXD d then none else some (.it (.bool (isTy t (tyD d))))
theorem if_none {α : Type} {b : Bool} {x y : α} (h : (if b then none else some x) = some y) : b = false ∧ x = y := by
  cases b with
  | false => exact ⟨rfl, Option.some.inj h⟩
  | true => cases h
theorem de_isi {X : Cx} {e : Expr} {fe : Fe} {t : Str} {ts : String} {p p2 pos : Pos} (hg : Gl X "isinstance") (hm : X.mg "isinstance" = none) (he : DE X e fe) (hgt : Gl X t) (hmt : X.mg t = none) (hvt : bootBuiltins t = some (.type ts)) (ht : ts ∈ ["int", "bool", "str", "list", "tuple"])
    (hv : bootBuiltins "isinstance" = some (.builtin "isinstance") := by decide +kernel) (hn : t ≠ "__name__" := by decide) (hd : (t == ("__debug__" : Str)) = false := by decide)
    (hs : starEach [e, .Name t p2] X.env = (false, eval e X.env) :: starEach [.Name t p2] X.env := by rfl) (hs2 : starEach [.Name t p2] X.env = (false, eval (.Name t p2) X.env) :: starEach [] X.env := by rfl) (hpl : (backTo pos (starEach [.Name t p2] X.env)).any (·.1) = false := by rfl) :
    DE X (.Call (.Name "isinstance" p) [e, .Name t p2] [] pos) (fop1 (gIsi ts) fe) := by
  intro P T σ ρ H rv ρ' S hf Q q
  refine PE.we (pe_callB call_isi hg hm hv (pa_cons peW (pa_cons (pe_bltn (v := .ty ts) hgt hmt hvt rfl hn hd) pa_nil hs2) hs) (he := hs) (hpl := hpl)) ?_
  refine op1_core (r := fun x H1 Q => rIsi X.K [x, .ty ts] H1 Q) he (fun S H x dx o hx h => ?_) S hf q
  obtain ⟨nx, rfl⟩ := if_none h
  exact Does.bl fun Q q => ⟨x, .ty ts, _, .type ts, _, rfl, .ty ts, top_ty hx nx, kit_isTy ht dx, q⟩
def gIsi2 (t u : String) : D → Option OutV := fun d => if isXD d then none else some (.it (.bool (isTy t (tyD d) || isTy u (tyD d))))
theorem de_isi2 {X : Cx} {e : Expr} {fe : Fe} {t u : Str} {ts us : String} {p p2 p3 p4 pos : Pos} {kk : Nat} (hg : Gl X "isinstance") (hm : X.mg "isinstance" = none) (he : DE X e fe) (hgt : Gl X t) (hmt : X.mg t = none) (hvt : bootBuiltins t = some (.type ts)) (ht : ts ∈ ["int", "bool", "str", "list", "tuple"])
    (hgu : Gl X u) (hmu : X.mg u = none) (hvu : bootBuiltins u = some (.type us)) (hu : us ∈ ["int", "bool", "str", "list", "tuple"])
    (hv : bootBuiltins "isinstance" = some (.builtin "isinstance") := by decide +kernel) (hn : t ≠ "__name__" := by decide) (hd : (t == ("__debug__" : Str)) = false := by decide) (hn' : u ≠ "__name__" := by decide) (hd' : (u == ("__debug__" : Str)) = false := by decide)
    (hs : starEach [e, .Tuple [.Name t p2, .Name u p3] kk p4] X.env = (false, eval e X.env) :: starEach [.Tuple [.Name t p2, .Name u p3] kk p4] X.env := by rfl) (hs2 : starEach [.Tuple [.Name t p2, .Name u p3] kk p4] X.env = (false, eval (.Tuple [.Name t p2, .Name u p3] kk p4) X.env) :: starEach [] X.env := by rfl)
    (hs3 : starEach [.Name t p2, .Name u p3] X.env = (false, eval (.Name t p2) X.env) :: starEach [.Name u p3] X.env := by rfl) (hs4 : starEach [.Name u p3] X.env = (false, eval (.Name u p3) X.env) :: starEach [] X.env := by rfl) (hpl : (backTo pos (starEach [.Tuple [.Name t p2, .Name u p3] kk p4] X.env)).any (·.1) = false := by rfl) :
    DE X (.Call (.Name "isinstance" p) [e, .Tuple [.Name t p2, .Name u p3] kk p4] [] pos) (fop1 (gIsi2 ts us) fe) := by
  intro P T σ ρ H rv ρ' S hf Q q
  refine PE.we (pe_callB call_isiT hg hm hv (pa_cons peW (pa_cons (pe_tup (pa_cons (pe_bltn (v := .ty ts) hgt hmt hvt rfl hn hd) (pa_cons (pe_bltn (v := .ty us) hgu hmu hvu rfl hn' hd') pa_nil hs4) hs3)) pa_nil hs2) hs) (he := hs) (hpl := hpl)) ?_
  simp only [fop1, Option.bind_eq_some_iff, Option.map_eq_some_iff] at hf
  obtain ⟨⟨ra, ρ1⟩, h1, da, h3, o, h5, h6⟩ := hf
  obtain ⟨nx, rfl⟩ := if_none h5
  cases h6
  refine he P T σ ρ H ra ρ1 S h1 _ fun v H1 T1 A1 => ⟨by show 2 ≤ sizeLine; decide, fun p hp => ?_⟩
  obtain ⟨S2, st2⟩ := A1.sim.allocT (o := .tup [.ty ts, .ty us]) hp
  have V2 := A1.val.step A1.sim st2 .refl .refl
  have tp := V2.top S2 h3
  refine ⟨v, p, [.ty ts, .ty us], _, [.type ts, .type us], isTy ts (tyD da) || isTy us (tyD da), rfl, upd_same, .cons (.ty ts) (.cons (.ty us) .nil), top_ty tp nx, ?_, ?_⟩
  · refine kitAny_cons (kit_isTy ht da) (fun e => kitAny_cons (kit_isTy hu da) (fun e' => ?_) fun e' => ?_) fun e => ?_
    · rw [e, e']; exact kitAny_nil
    · rw [e']; simp
    · rw [e]; simp
  · have S3 : Sim P T σ ρ1 (upd H1 p (.tup [.ty ts, .ty us])) := S2.less fun b h => A1.tx.tg.1 b h
    exact q _ _ T (aft_sh S3 (A1.stp.trans st2) A1.kp .refl (.bl _))
def gAppend : List D → List D → Option (D × List D) := fun es ds => match ds with
  | [d] => if es.length < 16777216 then some (.none, es ++ [d]) else none
  | _ => none
theorem opM_append : OpM rAppend gAppend := by
  intro S H a xs es vs ds d es' ha hr hv h
  match ds, h with
  | [e], h =>
    obtain ⟨hc, h1⟩ := guard_of (show (if es.length < 16777216 then some (PyData.none, es ++ [e]) else none) = some (d, es') from h)
    cases h1
    cases hv with
    | cons h1 h2 =>
      cases h2
      exact ⟨.non, xs ++ [_], hr.append (.cons h1 .nil), .non, fun Q q => ⟨a, xs, _, rfl, rfl, ha, by rw [hr.length]; exact line_lt hc, q⟩⟩
def gPop : List D → List D → Option (D × List D) := fun es ds => match ds with
  | [] => (es[es.length - 1]?).map fun d => (d, es.dropLast)
  | [.int i] => if -(2 ^ 63) ≤ i ∧ i < 2 ^ 63 then (seqIndex? i es.length).bind fun k => (es[k]?).map fun d => (d, es.eraseIdx k) else none
  | _ => none
def rPopA : V → List V → Hp → VK → Prop := fun x vs H Q => rPop x vs H Q ∨ rPopAt x vs H Q
theorem mt_popA {X : Cx} : MtR X "list.pop" rPopA := MtR.or mt_pop mt_popAt
theorem RepA.dropLast {S : Addr → Prop} {H : Hp} {vs : List V} {ds : List D} (r : RepA S H vs ds) : RepA S H vs.dropLast ds.dropLast := by
  rw [List.dropLast_eq_take, List.dropLast_eq_take, r.length]
  exact r.take _
theorem opM_pop : OpM rPopA gPop := by
  intro S H a xs es vs ds d es' ha hr hv h
  match ds, h with
  | [], h =>
    have h : (es[es.length - 1]?).map (fun d => (d, es.dropLast)) = some (d, es') := h
    simp only [Option.map_eq_some_iff] at h
    obtain ⟨e, h1, h2⟩ := h
    cases h2
    cases hv
    obtain ⟨v, h3, h4⟩ := hr.get' h1
    exact ⟨v, xs.dropLast, hr.dropLast, h4, fun Q q => .inl ⟨a, xs, v, rfl, rfl, ha, by rw [hr.length]; exact h3, q⟩⟩
  | [.int i], h =>
    have h : (if -(2 ^ 63) ≤ i ∧ i < 2 ^ 63 then (seqIndex? i es.length).bind fun k => (es[k]?).map fun d => (d, es.eraseIdx k) else none) = some (d, es') := h
    by_cases hc : -(2 ^ 63) ≤ i ∧ i < 2 ^ 63
    · rw [if_pos hc] at h
      simp only [Option.bind_eq_some_iff, Option.map_eq_some_iff] at h
      obtain ⟨k, h1, e, h2, h3⟩ := h
      cases h3
      cases hv with
      | cons r1 r2 =>
        cases r1
        cases r2
        obtain ⟨v, h4, h5⟩ := hr.get' h2
        exact ⟨v, xs.eraseIdx k, hr.eraseIdx k, h5, fun Q q => .inr ⟨a, xs, i, k, v, rfl, rfl, ha, hc.1, hc.2, by rw [hr.length]; exact h1, h4, q⟩⟩
    · rw [if_neg hc] at h; cases h
end DL
set_option Elab.async false
set_option linter.all false
set_option maxRecDepth 100000
set_option maxHeartbeats 4000000
namespace DL
open PySem PySem.Spec PyProof.Rows L2
theorem meets_enum1 {v : Value} {o : Obj} {H : Heap → Prop} (B : Begins v o H) :
    Meets (Builtin.«enumerate.__new__» ⟨[.type "enumerate", v], []⟩) (fun _ R s => H s.heap ∧
      R (.ok (.ret (.ref (s.heap.push o).objs.size))) { s with heap := (s.heap.push o).push { cls := .type "enumerate", data := .fields #[.none, .bool false, .ref s.heap.objs.size, rawInt 0, .none, .none] } }) :=
  .of_wp fun prog w A R s h => by
    obtain ⟨hp, g, d, tk, os⟩ := s
    obtain ⟨h1, h⟩ := h
    have hsub := sub_enumerate
    have q1 : ∀ {A' : Around} {E : Value → Shared → Prop} {Q : Value → Shared → Prop}, Q (.ref hp.objs.size) ⟨hp.push o, g, d, tk, os⟩ → wpAny (model prog w) A' (pyIter v) Q E ⟨hp, g, d, tk, os⟩ :=
      fun q => B.iter prog w _ _ ⟨hp, g, d, tk, os⟩ _ h1 q
    wp_walk using q1
    refine wpAny_stack_any fun st => wpAny_pure ?_
    split
    · rename_i c _ _ _ _ _
      cases (c == Value.type "enumerate")
      · wp_walk using q1
        exact ⟨_, rfl, h⟩
      · wp_walk using q1
        exact ⟨_, rfl, h⟩
    · wp_walk using q1
      exact ⟨_, rfl, h⟩
section
variable {prog : Program} {w : World} {A : Around} {E : Value → Shared → Prop} {s : Shared}
theorem call_enum1 {v : Value} {o : Obj} {H : Heap → Prop} {Q : Value → Shared → Prop} (B : Begins v o H) (h1 : H s.heap)
    (h : ∀ h', IsEnum h' (s.heap.objs.size + 1) s.heap.objs.size 0 .none → h'.get? s.heap.objs.size = some o → (∀ b o, s.heap.get? b = some o → h'.get? b = some o) → Q (.ref (s.heap.objs.size + 1)) { s with heap := h' }) :
    wpAny (model prog w) A (call (.type "enumerate") [v]) Q E s := by
  refine callType_new F.called_enumerate (by decide) (F.typeCall_enumerate_1 _) (F.newCall_enumerate_1 _) (fun obj => F.args_object_init_2 obj _) F.entry_enumerate_new (meets_enum1 B) ⟨h1, ?_⟩
  have hz : (s.heap.push o).objs.size = s.heap.objs.size + 1 := Heap.size_push ..
  show _ ∧ _
  rw [hz]
  have he : IsEnum ((s.heap.push o).push { cls := .type "enumerate", data := .fields #[.none, .bool false, .ref s.heap.objs.size, rawInt 0, .none, .none] }) (s.heap.objs.size + 1) s.heap.objs.size 0 .none := by
    have := Heap.get?_push_size (s.heap.push o) (o := { cls := .type "enumerate", data := .fields #[.none, .bool false, .ref s.heap.objs.size, rawInt 0, .none, .none] }) rfl
    rw [hz] at this; exact this
  exact ⟨⟨_, he, rfl⟩, h _ he (Heap.get?_push_of_some _ (Heap.get?_push_size _ B.free)) fun b o x => Heap.get?_push_of_some _ (Heap.get?_push_of_some _ x)⟩
end
/-- the tuple at a, each item in a new pair -/
def ItE (K : PySem.W.Frag) (a : Addr) : It :=
  ⟨fun i H => ∃ (xs : List V) (x : V), SqT K H a xs ∧ xs[i]? = some x, fun i H v H' => ∃ T x, v = .ref T ∧ H T = none ∧ H' = upd H T (.tup [.int (i : Nat), x]) ∧ ∀ xs, SqT K H a xs → xs[i]? = some x, fun i H => ∃ xs : List V, SqT K H a xs ∧ xs.length = i⟩
theorem turn_enumT {P : Program} {w : World} {K : PySem.W.Frag} {elts : List Expr} {kk : Nat} {tpos : Pos} (a e it : Addr) :
    Turn P w K (.Tuple elts kk tpos) (ItE K a) [e, it] e (fun i h => (∃ old, IsEnum h e it ((i : Nat) : Int) old) ∧ h.IsTupleIter it a i ∧ e ≠ it ∧ a ≠ it) where
  mem := by simp
  obj := fun i h st b hb => by
    obtain ⟨⟨old, he⟩, ⟨o, ho, hc, hd⟩, _⟩ := st
    have e' : b = e ∨ b = it := by simpa using hb
    rcases e' with z | z
    · rw [z]; exact ⟨_, he, fun v q => nomatch q⟩
    · rw [z]; exact ⟨o, ho, fun v q => by rw [hd] at q; cases q⟩
  keep := fun i h h' st k => let ⟨⟨old, he⟩, hi, hne, hna⟩ := st; ⟨⟨old, k e (by simp) _ he⟩, hi.at fun o q => k it (by simp) o q, hne, hna⟩
  item := by
    intro X hP hw hK hc i pins s σ H E I hf st hg
    subst hP hw hK
    obtain ⟨⟨old, he⟩, hit, hne, hna⟩ := st
    obtain ⟨xs, x, hq, hx⟩ := hg
    obtain ⟨its, rv, p, hz⟩ := I.tuple hq
    obtain ⟨u, hu, ru⟩ := rv.get hx
    have p' : s.heap.IsTuple a its.toArray := p
    have hel : e < s.heap.objs.size := Heap.lt_size he
    have hil : it < s.heap.objs.size := by obtain ⟨_, q, _⟩ := hit; exact Heap.lt_size q
    have hhd : X.A.in1.handled = none := I.ok.hd hc
    have hea : e ≠ a := fun z => by
      obtain ⟨o1, q1, q2, n, q3⟩ := p'
      have he' := he
      rw [z] at he'
      have := he'.symm.trans q1
      cases this
      cases q3
    have hlt : i < its.toArray.size := by
      have := (List.getElem?_eq_some_iff.mp hu).1
      simpa using this
    refine wpAny_pyNext_enum_itemD (Draws.tuple hhd it a hna its.toArray) he ⟨hit, p'⟩ hlt hne (by simp [hne, hea]) fun y h' tk hy ho hst' hT hsz hk => ?_
    have ey : y = u := by
      have : its.toArray[i]? = some u := by simpa using hu
      rw [this] at hy
      exact (Option.some.inj hy).symm
    subst ey
    refine ⟨_, rfl, wpAny_letOwnedTupleGo_enum (s := { s with heap := h', toks := tk + 1 }) ho fun h'' he' sb => ?_⟩
    have hT2 : h''.get? s.heap.objs.size = some { cls := .type "tuple", data := .seq #[.int i tk, y] } := (sb.2 _ (Nat.ne_of_gt hel)).trans hT
    have new : ObjOk X.prog X.w (upd H s.heap.objs.size (.tup [.int (i : Nat), x])) h'' s.heap.objs.size (.tup [.int (i : Nat), x]) :=
      ⟨by show 2 ≤ sizeLine; decide, [.int i tk, y], .cons ⟨_, rfl⟩ (.cons ru .nil), ⟨_, hT2, rfl, _, rfl⟩⟩
    have I1 : Inv X pins σ (upd H s.heap.objs.size (.tup [.int (i : Nat), x])) { s with heap := h'', toks := tk + 1 } :=
      I.turnedNew (ch := [e, it]) (fun b ob hb q => (sb.2 b (fun z => hb (by simp [z]))).trans (hk b ob (fun z => hb (by simp [z])) (fun z => hb (by simp [z])) q)) hf (Nat.le_refl _) new
    refine ⟨.ref s.heap.objs.size, _, I1, rfl, ⟨_, x, rfl, I.hok.fresh (Nat.le_refl _), rfl, fun ys hy => by rw [I.tuple_inj hy hq]; exact hx⟩, ⟨⟨y, ?_⟩, hst'.1.at fun o q => (sb.2 it (Ne.symm hne)).trans q, hne, hna⟩, fun b hb => ?_⟩
    · have e1 : ((i + 1 : Nat) : Int) = (i : Int) + 1 := by omega
      rw [e1]; exact he'
    · have hb' : b < s.heap.objs.size := by
        have e' : b = e ∨ b = it := by simpa using hb
        rcases e' with z | z
        · rw [z]; exact hel
        · rw [z]; exact hil
      rw [upd_ne (Nat.ne_of_lt hb')]
      exact (hf b hb).1
  done := by
    intro X hP hw hK hc i pins s σ H E I hf st hg
    subst hP hw hK
    obtain ⟨⟨old, he⟩, hit, hne, hna⟩ := st
    obtain ⟨xs, hq, hx⟩ := hg
    obtain ⟨its, rv, p, hz⟩ := I.tuple hq
    have p' : s.heap.IsTuple a its.toArray := p
    obtain ⟨f0, f1, f2, f3, f4, f5⟩ := hf it (by simp)
    have hl := rv.length
    have hhd : X.A.in1.handled = none := I.ok.hd hc
    have hi : i = its.toArray.size := by rw [List.size_toArray, ← hl]; exact hx.symm
    exact wpAny_pyNext_enum_endD (Draws.tuple hhd it a hna its.toArray) he (by rw [← hi]; exact ⟨hit, p'⟩) fun h' eb => ⟨rfl, I.turned (t' := s.toks) (fun b o hb q => eb b o hb q) f0 f1 f3 f4 f5⟩
  self := fun A i s Q E st h => let ⟨⟨_, he⟩, _⟩ := st; wpAny_pyIter_enum he h
def iEnumT (K : PySem.W.Frag) (ta : TA) : TI := fun σ H R => ta σ H fun vs H1 => ∃ a xs, vs = [.ref a] ∧ SqT K H1 a xs ∧ R (ItE K a) H1
theorem pi_enumT {X : Cx} {e : Expr} {ta : TA} {p pos tpos : Pos} {elts : List Expr} {kk : Nat} (hg : Gl X "enumerate") (hm : X.mg "enumerate" = none) (ha : PA X [e] ta) (hs : starEach [e] X.env = [(false, eval e X.env)] := by rfl) :
    PI X (.Tuple elts kk tpos) (.Call (.Name "enumerate" p) [e] [] pos) (iEnumT X.K ta) := by
  refine ⟨fun pins s σ H R I h => ?_⟩
  refine Call_ (ld_blt I hg hm boot_enumerate (PyProof.Rows.callWith_type1 (thn (ha.run pos pins s σ H _ I h) fun us s1 ⟨vs, H1, I1, r1, q1⟩ => ?_) hs rfl))
  obtain ⟨a, xs, ex, hq, q⟩ := q1
  subst ex
  cases r1 with
  | cons r rr =>
    cases rr
    cases r
    obtain ⟨its, rv, p', hz⟩ := I1.tuple hq
    have p2 : s1.heap.IsTuple a its.toArray := p'
    refine call_enum1 (begins_tuple a its.toArray) p2 fun h' he hit hk => wpAny_pyIter_enum he ?_
    have I2 : Inv X pins σ H1 { s1 with heap := h' } := I1.kept (t' := s1.toks) hk
    have hal : a < s1.heap.objs.size := by obtain ⟨_, q1, _⟩ := p2; exact Heap.lt_size q1
    refine ⟨s1.heap.objs.size + 1, [s1.heap.objs.size + 1, s1.heap.objs.size], _, _, H1, rfl, I2, turn_enumT a (s1.heap.objs.size + 1) s1.heap.objs.size, ⟨⟨.none, he⟩, ⟨_, hit, rfl, rfl⟩, Nat.succ_ne_self _, Nat.ne_of_lt hal⟩, fun b hb => ?_, q⟩
    have e' : b = s1.heap.objs.size + 1 ∨ b = s1.heap.objs.size := by simpa using hb
    have hle : s1.heap.objs.size ≤ b := by
      rcases e' with z | z
      · rw [z]; exact Nat.le_add_right _ _
      · rw [z]; exact Nat.le_refl _
    exact I1.fpOk hle (I1.hok.fresh hle)
section
variable {P : Pk} {T T' : Addr → Prop} {σ : SS} {ρ ρ' : En} {H H' : Hp}
theorem walk_enumT {K : PySem.W.Frag} {a : Addr} {xs : List V} {ds : List D} (hr : Rd H a (.tup xs)) (ho : ¬ Own σ ρ a) (ha : RepA (Av P T σ ρ) H xs ds) : Walk P T σ ρ H (ItE K a) (enD 0 ds) where
  go := fun i H' k hi => by
    rw [enD_len] at hi
    have hi' : i < xs.length := by rw [ha.length]; exact hi
    exact ⟨xs, xs[i], .inl (rd_keep hr ho k), by simp [hi']⟩
  yld := fun i H' k hi x H2 y => by
    obtain ⟨t, y0, e1, hn, e2, y⟩ := y
    subst e1
    have hx := y xs (.inl (rd_keep hr ho k))
    obtain ⟨d, e3, r1⟩ := ha.get hx
    obtain ⟨u1, u2⟩ := rep_pair (P := P) (T := T) hn e2 k (.int (i : Nat)) r1
    exact ⟨u1, _, by rw [enD_get ds 0 i d e3, Nat.zero_add], u2⟩
  stop := fun H' k => ⟨xs, .inl (rd_keep hr ho k), by rw [ha.length, enD_len]⟩
end
def fien (f : Fe) : Fi := fun ρ => (f ρ).bind fun x => (dat x.2 x.1).bind fun d => (rel x.2 x.1).bind fun ρ2 => match d with
  | .list ds => some (enD 0 ds, ρ2)
  | .tuple ds => some (enD 0 ds, ρ2)
  | _ => none
theorem di_enum {X : Cx} {e : Expr} {fe : Fe} {p pos tpos : Pos} {elts : List Expr} {kk : Nat} (hg : Gl X "enumerate") (hm : X.mg "enumerate" = none) (he : DE X e fe) (hs : starEach [e] X.env = [(false, eval e X.env)] := by rfl) :
    DI X (.Tuple elts kk tpos) (.Call (.Name "enumerate" p) [e] [] pos) (fien fe) := by
  intro P T σ ρ H items ρ' S hf R q
  simp only [fien, Option.bind_eq_some_iff] at hf
  obtain ⟨⟨r, ρ1⟩, e1, d, e2, ρ2, e3, e4⟩ := hf
  have hs' : starEach [e] X.env = (false, eval e X.env) :: starEach [] X.env := hs
  cases d with
  | list ds =>
    cases e4
    refine PI.wi (pi_enum hg hm (pa_cons peW pa_nil hs') hs) (he P T σ ρ H r ρ1 S e1 _ fun v H1 T1 A => ?_)
    obtain ⟨st2, kp2⟩ := rel_stp (σ := σ) (H := H1) e3
    obtain ⟨a, xs, ev, hr, ho, ha⟩ := (A.val.held A.sim e3 e2).1 ds rfl
    exact ⟨a, xs, by rw [ev], .inl hr, q _ H1 T1 (A.sim.rel e3) (A.stp.trans st2) (A.kp.trans kp2) A.tx.tg (walk_enum hr ho ha)⟩
  | tuple ds =>
    cases e4
    refine PI.wi (pi_enumT hg hm (pa_cons peW pa_nil hs') hs) (he P T σ ρ H r ρ1 S e1 _ fun v H1 T1 A => ?_)
    obtain ⟨st2, kp2⟩ := rel_stp (σ := σ) (H := H1) e3
    obtain ⟨a, xs, ev, hr, ho, ha⟩ := (A.val.held A.sim e3 e2).2 ds rfl
    exact ⟨a, xs, by rw [ev], .inl hr, q _ H1 T1 (A.sim.rel e3) (A.stp.trans st2) (A.kp.trans kp2) A.tx.tg (walk_enumT hr ho ha)⟩
  | _ => cases e4
end DL
set_option Elab.async false
set_option linter.all false
set_option maxRecDepth 100000
set_option maxHeartbeats 4000000
namespace DL
open PySem PySem.Spec PyProof.Rows L2
section
variable {X : Cx}
/-- targets that are names -/
structure PN (X : Cx) (ts : List Expr) (is : List Nat) : Prop where
  g : PGs X ts (fun vs σ H Q => vs.length = is.length ∧ Q (sets is vs σ) H)
end
theorem room65 {k : Nat} {A : Around} (r : RoomG k A) : A.units + 65 < cLine := by have := r.rm.un; omega
structure At (K : PySem.W.Frag) (mg : Str → Option Value) (x : Str) (st : Stmt) (ps : List Str) (f : Addr) (fd : FuncData) : Prop where
  fn : Fun K x x st f fd
  mg : mg x = some (.ref f)
  bd : Binds K fd ps []
section
variable {P : Program} {w : World} {K : PySem.W.Frag} {mg : Str → Option Value} {base : Heap}
theorem fn_none {f : Addr} {fd : FuncData} {ps : List Str} {k : Option Nat} {lv : Nat} : FnG P w K mg base CX0 lv f fd ps (spD k fun _ => none) :=
  ⟨fun vs H Q E ⟨S, ds, r, h, _⟩ => (nomatch h), fun A outer s H args us vs Q E hr he hb hv ⟨S, ds, r, h, _⟩ => (nomatch h)⟩
end
def notList (o : Obj) : Bool := match o.cls with
  | .type n => n != "list"
  | _ => true
def noLists (K : PySem.W.Frag) : Bool := K.all fun p => notList p.2
theorem noLists_lookup {K : PySem.W.Frag} (h : noLists K = true) {a : Addr} {o : Obj} (e : K.lookup a = some o) (hc : o.cls = .type "list") : False := by
  have mem : ∀ (l : List (Addr × Obj)), l.lookup a = some o → ∃ b, (b, o) ∈ l := by
    intro l
    induction l with
    | nil => intro h; cases h
    | cons p l ih =>
      intro h
      obtain ⟨b, u⟩ := p
      rw [List.lookup_cons] at h
      split at h
      · cases h; exact ⟨b, List.mem_cons_self⟩
      · obtain ⟨c, hc⟩ := ih h
        exact ⟨c, List.mem_cons_of_mem _ hc⟩
  obtain ⟨b, hb⟩ := mem K e
  have := List.all_eq_true.mp h (b, o) hb
  simp only [notList, hc] at this
  exact absurd this (by decide)
/-- the law's answer at every script -/
def LawOk (F : FS) : Prop := ∀ ns : List Int, ns.length ≤ 63 → ∃ es, F [.list (ns.map .int)] = some ⟨false, .bool true, es⟩
theorem law_callG {P : Program} {w : World} {K : PySem.W.Frag} {mg mb : Str → Option Value} {k : Nat} {fa a : Addr} {fd : FuncData} {x : Str} {F : FS} {s1 : Shared} {vs : List Value} {ns : List Int} {es : List D}
    (KX : K.In s1.heap) (hns : s1.heap.Ns mainGlobals mg) (hb : s1.heap.Ns builtinsNs mb) (hbb : ∀ x : Str, x ≠ "__name__" → mb x = bootBuiltins x) (hlim : s1.heap.NoLimit) (hg : s1.gens = #[]) (hN : noLists K = true)
    (ha : s1.heap.get? a = some { cls := .type "list", data := .seq vs.toArray }) (hi : IntsAre vs ns) (hl : ns.length ≤ sizeLine) (hr : Room k callerA)
    (Fo : ∀ base : Heap, K.In base → base.Ns mainGlobals mg → FnG P w K mg base CX0 k fa fd [x] (spD none F)) (hbind : ∀ (s : Shared) (u : Value), BindsTo s fd ⟨[u], []⟩ [(x, u)])
    (he : F [.list (ns.map .int)] = some ⟨false, .bool true, es⟩) :
    codeAny (model P w) callerA (.call (.ref fa) ⟨[.ref a], []⟩) (fun r s' => r = .ok (.ret (.bool true)) ∧ OldK s1.heap s'.heap ∧ s'.os = s1.os ∧ AllBare s'.gens) s1 := by
  have noK : ∀ o, K.lookup a ≠ some o := fun o e => by
    have := KX a o e
    rw [ha] at this; cases this
    exact noLists_lookup hN e rfl
  -- the script is the one object that is tracked
  obtain ⟨H, hHa, hHn⟩ : ∃ H : Hp, H a = some (.frz { cls := .type "list", data := .seq vs.toArray } (.lst (ns.map V.int))) ∧ ∀ b, b ≠ a → H b = none :=
    ⟨fun b => if b = a then some (.frz { cls := .type "list", data := .seq vs.toArray } (.lst (ns.map V.int))) else none, if_pos rfl, fun b h => if_neg h⟩
  have hid : ∀ {b : Addr} {o : Obj}, s1.heap.get? b = some o → b ≠ a → (hidT s1.heap H).get? b = some o := fun e h => hidT_get e (hHn _ h)
  have nsH : ∀ {b : Addr} {m : Str → Option Value}, s1.heap.Ns b m → (hidT s1.heap H).Ns b m := fun {b m} ⟨o, en, ep, e, d, r⟩ => ⟨o, en, ep, hid e (fun z => by
    subst z
    rw [ha] at e; cases e
    cases (show Data.seq vs.toArray _ = Data.dict en ep from d)), d, r⟩
  have hK : K.In (hidT s1.heap H) := fun b o e => hid (KX b o e) fun z => noK o (z ▸ e)
  have hM : Mod K mg (hidT s1.heap H) := by
    obtain ⟨mc, h1, h2⟩ := hlim
    exact ⟨hK, nsH hns, ⟨mb, nsH hb, hbb⟩, mc, nsH h1, h2⟩
  have hok : HOk P w H s1.heap := fun b u z => by
    by_cases h : b = a
    · subst h
      rw [hHa] at z; cases z
      exact ⟨ha, by rw [List.length_map]; exact hl, vs, _, vals_ints hi, ha⟩
    · rw [hHn b h] at z; cases z
  have e0 : Env0 P w K mg (hidT s1.heap H) callerA [] s1 H := ⟨rfl, hM, fun b o e => of_hidT e, Nat.le_of_eq (hidT_size _ _), trivial, (fun b hb => nomatch hb), hok, .of_eq hg⟩
  refine codeAny_mono ((Fo _ hK (nsH hns)).runs callerA [] s1 H ⟨[.ref a], []⟩ [.ref a] [.ref a] (fun v _ => v = .bl true) (fun _ _ _ => False) ⟨hr, rfl⟩ e0 (hbind s1 (.ref a)) (.cons rfl .nil) ?_) fun r s' h => ?_
  · refine ⟨fun b => b = a, [.list (ns.map .int)], _, he, ⟨rfl, fun i v d _ h1 h2 => ?_, fun i v d h => (nomatch h), fun b zs hz => ?_⟩, fun v H' T po => ?_⟩
    · match i, h1, h2 with
      | 0, h1, h2 =>
        cases h1; cases h2
        exact .lst rfl (.inr ⟨_, hHa⟩) (RepA.of_ints ns)
    · by_cases h : b = a
      · exact h
      · rw [hHn b h] at hz; cases hz
    · have := po.res rfl
      cases this
      rfl
  · match r, h with
    | .ok (.ret u), ⟨v, H', os, bare, un, hok', r', q⟩ =>
      have q' : v = .bl true := q
      subst q'
      obtain rfl : u = Value.bool true := r'
      refine ⟨rfl, OldK.of_keep fun b o e => ?_, os, bare⟩
      by_cases h : b = a
      · subst h
        have z := un.frzs b _ _ hHa
        rw [ha] at e; cases e
        exact (hok' b _ z).1
      · exact un.keep b o e (hHn b h) (fun z => nomatch z) (fun z => nomatch z)
theorem walkD {l : PySem.W.OpenLaw} {k : Nat} {q : Program} {loose : List Str} {XP : (Str → Option Value) → Heap → Prop} {YP : World → Heap → Prop} {d : DefRec} {K : Params → PySem.W.Frag} {x : Str} {F : FS}
    (hn : l.most = some 63) (hdf : d.params.defaults = []) (hr : Room k callerA) (hY : ∀ (w : World) (h : Heap), YP w h → (K w.params).In h) (hN : ∀ w : World, noLists (K w.params) = true) (hF : LawOk F)
    (Fo : ∀ (w : World) (mg : Str → Option Value) (fa : Addr) (h : Heap), (K w.params).In h → h.Ns mainGlobals mg → mg d.name = some (.ref fa) →
      ∃ fd : FuncData, (∀ (s : Shared) (u : Value), BindsTo s fd ⟨[u], []⟩ [(x, u)]) ∧ ∀ base : Heap, (K w.params).In base → base.Ns mainGlobals mg → FnG l.prog w (K w.params) mg base CX0 k fa fd [x] (spD none F)) :
    PySem.W.WalkO q loose XP YP l.row.toRowW d [] (fun f vs => PySem.call f vs) := by
  refine Att.attach_call hn hdf fun w s0 s1 mg mb fa o pm cd doc a vs ns G Y ho hd hcd hmg hobj hints hlen hg => ?_
  have KX := hY w _ Y
  obtain ⟨fd, hb, hFo⟩ := Fo w mg fa _ KX G.T.g hmg
  obtain ⟨es, he⟩ := hF ns hlen
  exact law_callG KX G.T.g G.T.b G.T.builtins G.T.nolimit hg (hN w) hobj hints (Nat.le_trans hlen (by decide)) hr hFo hb he
end DL
set_option Elab.async false
set_option linter.all false
set_option maxRecDepth 100000
set_option maxHeartbeats 2000000
namespace DL
open PySem PySem.Spec PyProof.Rows L2
section
end
section
end
section
end
end DL
set_option Elab.async false
set_option linter.all false
set_option maxRecDepth 100000
set_option maxHeartbeats 2000000
namespace DL
open PySem PySem.Spec PyProof.Rows L2
end DL
set_option Elab.async false
set_option linter.all false
set_option maxRecDepth 100000
set_option maxHeartbeats 2000000
namespace DL
open PySem PySem.Spec PyProof.Rows L2
end DL
set_option Elab.async false
set_option linter.all false
set_option maxRecDepth 100000
set_option maxHeartbeats 2000000
namespace DL
open PySem PySem.Spec PyProof.Rows L2
/-- the i-th parameter behind the positional ones has the keyword at π[i] -/
def pm {α : Type} (π : List Nat) (ws : List α) : List α := π.filterMap fun i => ws[i]?
section
variable {P : Pk} {T T' : Addr → Prop} {σ : SS} {ρ ρ' : En} {H H' : Hp}
theorem TxA.at : ∀ {vs : List V} {rs : List RV}, vs.length = rs.length → TxA H vs rs → ∀ (i : Nat) (d : D), rs[i]? = some (RV.fr d) → ∃ a, vs[i]? = some (V.ref a) ∧ H a = none ∧ ∀ (j : Nat) (d' : D), i < j → rs[j]? = some (RV.fr d') → vs[j]? ≠ some (V.ref a)
  | [], [], _, _, i, d, e => by simp at e
  | v :: vs, r :: rs, hl, h, 0, d, e => by
    obtain ⟨a, e1, e2, e3⟩ := h.1 d (by simpa using e)
    refine ⟨a, by simp [e1], e2, fun j d' hj e4 e5 => ?_⟩
    obtain ⟨j', rfl⟩ : ∃ j', j = j' + 1 := ⟨j - 1, by omega⟩
    exact e3 j' d' (by simpa using e4) (by simpa using e5)
  | v :: vs, r :: rs, hl, h, i + 1, d, e => by
    obtain ⟨a, e1, e2, e3⟩ := TxA.at (by simpa using hl) h.2 i d (by simpa using e)
    refine ⟨a, by simpa using e1, e2, fun j d' hj e4 e5 => ?_⟩
    obtain ⟨j', rfl⟩ : ∃ j', j = j' + 1 := ⟨j - 1, by omega⟩
    exact e3 j' d' (by omega) (by simpa using e4) (by simpa using e5)
  | [], _ :: _, hl, _, _, _, _ => by simp at hl
  | _ :: _, [], hl, _, _, _, _ => by simp at hl
end
section
end
end DL
set_option Elab.async false
set_option linter.all false
set_option maxRecDepth 100000
set_option maxHeartbeats 2000000
namespace DL
open PySem PySem.Spec PyProof.Rows L2
abbrev Nl := List (Nat × List D)
section
variable {P : Pk} {T T2 : Addr → Prop} {σ σ' : SS} {ρ ρ' : En} {H H' : Hp} {ns : Nl}
/-- a slot is unset or forgotten -/
theorem Sim.drop {i : Nat} {x : Option V} (S : Sim P T σ ρ H) : Sim P T (σ.set i x) (ρ.set i none) H ∧ (∀ b, Own (σ.set i x) (ρ.set i none) b → Own σ ρ b) := by
  have get : ∀ {j : Nat} {y : Fl × D}, (ρ.set i none)[j]? = some (some y) → j ≠ i ∧ ρ[j]? = some (some y) := fun {j y} h => by
    rcases get_set h with ⟨_, e⟩ | e
    · cases e
    · exact e
  have sg : ∀ {j : Nat}, j ≠ i → (σ.set i x)[j]? = σ[j]? := fun {j} h => List.getElem?_set_ne (Ne.symm h)
  have ow : ∀ b, Own (σ.set i x) (ρ.set i none) b → Own σ ρ b := fun b ⟨j, fl, d, h1, h2, h3⟩ => by
    obtain ⟨n, e⟩ := get h1
    rw [sg n] at h3
    exact ⟨j, fl, d, e, h2, h3⟩
  have av : ∀ a u, Av P T σ ρ a → H a = some u → Av P T (σ.set i x) (ρ.set i none) a ∧ H a = some u := fun a u ⟨h1, h2, h3⟩ e => ⟨⟨h1, fun q => h2 (ow a q), h3⟩, e⟩
  refine ⟨⟨by simp [S.len], fun j d e => ?_, fun j fl d e n => ?_, fun j k fl fl' d d' a e n e' n' s s' => ?_, fun j d a e s => ?_, fun j d e => ?_, fun c q => ⟨(S.tn c q).1, fun z => (S.tn c q).2 (ow c z)⟩, S.keep, S.dom, S.sB, S.tp⟩, ow⟩
  · obtain ⟨n, e⟩ := get e
    obtain ⟨v, q1, q2⟩ := S.sh j d e
    exact ⟨v, by rw [sg n]; exact q1, q2.mono av⟩
  · obtain ⟨n2, e⟩ := get e
    obtain ⟨a, o, q2, q3, q4⟩ := S.ow j fl d e n
    exact ⟨a, o, by rw [sg n2]; exact q2, q3, q4.mono av⟩
  · obtain ⟨n1, e⟩ := get e
    obtain ⟨n2, e'⟩ := get e'
    rw [sg n1] at s
    rw [sg n2] at s'
    exact S.dj j k fl fl' d d' a e n e' n' s s'
  · obtain ⟨n, e⟩ := get e
    rw [sg n] at s
    exact S.new j d a e s
  · obtain ⟨n, e⟩ := get e
    rw [sg n]
    exact S.bx j d e
end
def NoOwn (σ : SS) (ρ : En) : Addr → Prop := fun b => ¬ Own σ ρ b
theorem rep_step {σ σ' : SS} {ρ ρ' : En} {H H' : Hp} {v : V} {d : D} (st : Stp σ ρ H σ' ρ' H') (r : Rep (NoOwn σ ρ) H v d) : Rep (NoOwn σ' ρ') H' v d := by
  refine r.mono fun a o h e => ⟨fun q => ?_, st.fr a o e h⟩
  rcases st.os a q with z | z
  · exact h z
  · rw [e] at z; cases z
structure PIn (P : Pk) (T : Addr → Prop) (σ0 : SS) (ρ0 : En) (H0 : Hp) (σ : SS) (ρ : En) (ns : Nl) (m : Nat) (H : Hp) (T2 I : Addr → Prop) : Prop where
  sim : Sim P T2 σ ρ H
  tg : Tg T H0 T2
  stp : Stp σ0 ρ0 H0 σ ρ H
  inn : ∀ b, I b → T2 b ∧ H0 b = none ∧ ∃ xs, H b = some (.lst xs) ∧ xs.length ≤ 1000000 + m
  nst : ∀ s ds, (s, ds) ∈ ns → ρ[s]? = some none ∧ ∃ a vs, σ[s]? = some (some (V.ref a)) ∧ H a = some (.lst vs) ∧ T2 a ∧ ¬ I a ∧ vs.length = ds.length ∧ (∀ v ∈ vs, ∃ b, v = V.ref b ∧ I b) ∧ (m = 0 → Rep (NoOwn σ ρ) H (.ref a) (.list ds))
  dom : ∀ b o, P.H0 b = some o → ∃ o', H0 b = some o'
section
variable {P : Pk} {T T2 T3 I : Addr → Prop} {σ0 σ : SS} {ρ0 ρ : En} {H0 H H' : Hp} {ns : Nl} {m : Nat}
theorem PIn.start (S : Sim P T σ ρ H) : PIn P T σ ρ H σ ρ [] 0 H T (fun _ => False) :=
  ⟨S, .refl, .refl, fun b q => q.elim, fun s ds h => by simp at h, S.dom⟩
/-- the phase goes on behind a value -/
theorem PIn.step (p : PIn P T σ0 ρ0 H0 σ ρ ns m H T2 I) (S : Sim P T3 σ ρ H') (st : Stp σ ρ H σ ρ H') (tg : Tg T2 H T3) : PIn P T σ0 ρ0 H0 σ ρ ns m H' T3 I := by
  have kp : ∀ b o, T2 b → H b = some o → H' b = some o := fun b o t e => st.fr b o e (p.sim.tn b t).2
  refine ⟨S, p.tg.trans tg p.stp.dm, p.stp.trans st, fun b q => ?_, fun s ds h => ?_, p.dom⟩
  · obtain ⟨h1, h2, xs, h3, h4⟩ := p.inn b q
    exact ⟨tg.1 b h1, h2, xs, kp b _ h1 h3, h4⟩
  · obtain ⟨h1, a, vs, h2, h3, h4, h5, h6, h7, h8⟩ := p.nst s ds h
    exact ⟨h1, a, vs, h2, kp a _ h4 h3, tg.1 a h4, h5, h6, h7, fun z => rep_step st (h8 z)⟩
end
section
variable {X : Cx} {st : Stmt} {rest : List Stmt} {f : Fp} {g : Fq} {pos : Pos}
def allFrL : List RV → Bool
  | [] => true
  | .fr (.list es) :: rs => decide (es.length ≤ 1000000) && allFrL rs
  | _ => false
end
end DL
set_option Elab.async false
set_option linter.all false
set_option maxRecDepth 100000
set_option maxHeartbeats 2000000
namespace HT
open PySem PyProof.Rows
section
open PySem.SeqAt
variable {prog : Program} {w : World} {A : Around} {E : Value → Shared → Prop} {s : Shared}
theorem pick_rev (xs : Array Value) : ((List.range xs.size).filterMap fun (k : Nat) => xs[((xs.size : Int) - 1 + (k : Int) * -1).toNat]?).toArray = xs.toList.reverse.toArray := by
  rw [← PySem.W.krv_pick]
  unfold slicePick
  rw [PySem.W.krv_bounds]
  show _ = ((sliceRange ((xs.size : Int) - 1) (-1) (-1)).filterMap (xs[·]?)).toArray
  rw [PySem.W.krv_sliceRange, List.filterMap_map]
  congr 2
  funext k
  show _ = xs[xs.size - 1 - k]?
  congr 1
  omega
theorem sliceApplied_rev {sl : Addr} {vl vu vs : Value} {n : Nat} {Q : Int × Int × Nat → Shared → Prop} (hs : s.heap.IsSliceOf sl vl vu vs) (pl : IsPart vl none) (pu : IsPart vu none) (ps : IsPart vs (some (-1)))
    (h : Q ((n : Int) - 1, -1, n) s) : wpAny (model prog w) A (Builtin.Slice.sliceApplied (.ref sl) (pure (n : Int))) Q E s := by
  obtain ⟨os, hos, hcs, hds⟩ := id hs
  unfold Builtin.Slice.sliceApplied Builtin.Slice.sliceFields
  refine wpAny_bind (wpAny_bind (wpAny_field hos hds (x := vl) rfl (wpAny_bind (wpAny_field hos hds (x := vu) rfl (wpAny_bind (wpAny_field hos hds (x := vs) rfl (wpAny_pure ?_)))))))
  refine wpAny_bind (slicePart_ ps ?_)
  show wpAny _ _ (if ((-1 : Int) == 0) = true then _ else _) _ _ s
  rw [if_neg (by decide)]
  refine wpAny_bind (slicePart_ pl (wpAny_bind (slicePart_ pu (wpAny_bind (wpAny_pure ?_)))))
  show wpAny _ _ (pure ((n : Int) - 1, (-1 : Int), Builtin.Slice.slicePlaces ((n : Int) - 1) (-1) (-1))) _ _ s
  have e : Builtin.Slice.slicePlaces ((n : Int) - 1) (-1) (-1) = n := by
    unfold Builtin.Slice.slicePlaces
    rw [if_neg (by decide)]
    by_cases h : (n : Int) - 1 > -1
    · rw [if_pos h, show (- -1 : Int) = 1 by decide, Int.ediv_one]; omega
    · rw [if_neg h]; omega
  rw [e]
  exact wpAny_pure h
theorem getItem_tuple_rev {t sl : Addr} {items : Array Value} {vl vu vs : Value} {Q : Value → Shared → Prop} (ht : IsTup s.heap t items) (hs : s.heap.IsSliceOf sl vl vu vs) (pl : IsPart vl none) (pu : IsPart vu none) (ps : IsPart vs (some (-1)))
    (h : Q (.ref s.heap.objs.size) { s with heap := s.heap.push { cls := .type "tuple", data := .seq items.toList.reverse.toArray } })
    (hsz : items.size ≤ sizeLine) : wpAny (model prog w) A (getItem (.ref t) (.ref sl)) Q E s := by
  have htake : sizeOk (.seq items.toList.reverse.toArray) := by
    show items.toList.reverse.toArray.size ≤ sizeLine
    rw [List.size_toArray, List.length_reverse, Array.length_toList]
    exact hsz
  obtain ⟨os, hos, hcs, hds⟩ := id hs
  have hTs : s.TypeIs (.ref sl) "slice" := ⟨os, hos, hcs⟩
  unfold getItem
  try with_reducible refine wpAny_holding ?_
  first | refine wpAny_bind (wpAny_pure ?_) | skip
  refine wpAny_bind (wpAny_sequenceKey ht.typeIs (by decide) ?_)
  refine wpAny_bind (wpAny_callSpecial?_slot (name := Str.ofString "__getitem__") ht.typeIs PyProof.Rows.slot_tuple_getitem
    (wpAny_call_entry PyProof.Rows.slot_tuple_getitem ht.typeIs entry_tuple_getitem ?_ (args_tuple_getitem _ _)))
  show wpAny _ _ (Builtin.Tuple.tupleItemsOf (.ref t) >>= _) _ _ s
  refine wpAny_bind (tupleItemsOf_ ht ?_)
  refine wpAny_bind (wpAny_typeOf hTs ?_)
  rw [if_pos (by decide)]
  refine wpAny_bind (sliceApplied_rev hs pl pu ps ?_)
  show wpAny _ _ (if (((items.size : Int) - 1) == 0 && (-1 : Int) == 1 && items.size == items.size) = true then _ else _) _ _ s
  rw [if_neg (by simp), pick_rev]
  first
    | exact wpAny_bind (m := Builtin.Tuple.tupleExact _) (wpAny_newObj_type (wpAny_pure ⟨_, rfl, wpAny_pure h⟩) htake)
    | exact wpAny_bind (m := Builtin.Tuple.tupleExact _) (wpAny_newObj_type (wpAny_bind (wpAny_pure (wpAny_pure ⟨_, rfl, wpAny_pure h⟩))) htake)
    | exact wpAny_bind (wpAny_bind (m := Builtin.Tuple.tupleExact _) (wpAny_newObj_type (wpAny_pure (wpAny_pure ⟨_, rfl, wpAny_pure h⟩)) htake))
    | exact wpAny_bind (wpAny_bind (m := Builtin.Tuple.tupleExact _) (wpAny_newObj_type (wpAny_pure ⟨_, rfl, wpAny_pure h⟩) htake))
end
end HT
namespace L2
open PySem PySem.Spec PyProof.Rows
section
variable {X : Cx}
def tRevA (K : PySem.W.Frag) (te : TE) : TE := fun σ H Q => te σ H fun x H1 => ∃ a xs, x = .ref a ∧ ((SqL K H1 a xs ∧ ∀ p, H1 p = none → Q (.ref p) (upd H1 p (.lst xs.reverse))) ∨ (SqT K H1 a xs ∧ ∀ p, H1 p = none → Q (.ref p) (upd H1 p (.tup xs.reverse))))
theorem pe_revA {e : Expr} {te : TE} {k : Nat} {p1 p2 p3 pos : Pos} (he : PE X e te) : PE X (.Subscript e (.Slice none none (some (.UnaryOp .USub (.Constant (.int 1) k p1) p2)) p3) pos) (tRevA X.K te) := by
  refine ⟨fun pins s σ H Q I h => ?_⟩
  refine Subscript_ (thn (he.run pins s σ H _ I h) fun v s1 ⟨x, H1, I1, r1, q1⟩ => ?_)
  obtain ⟨a, xs, ex, q⟩ := q1
  subst ex
  cases r1
  have hst : PO X (some (.UnaryOp .USub (.Constant (.int 1) k p1) p2)) (tPart (tUn (rU fun i => .int (-i)) (tC (.int 1)))) := po_some (pe_un un_neg pe_int)
  refine wpAny_Slice (thn (po_none.run pins s1 σ H1 (fun o H2 => o = none ∧ H2 = H1) I1 ⟨rfl, rfl⟩) fun vl s2 ⟨l, H2, I2, pl, el, e2⟩ => ?_)
  subst el e2
  refine thn (po_none.run pins s2 σ H2 (fun o H3 => o = none ∧ H3 = H2) I2 ⟨rfl, rfl⟩) fun vu s3 ⟨u, H3, I3, pu, eu, e3⟩ => ?_
  subst eu e3
  refine thn (hst.run pins s3 σ H3 (fun o H4 => o = some (-1) ∧ H4 = H3) I3 ⟨1, rfl, -1, rfl, rfl, rfl⟩) fun vs s4 ⟨o, H4, I4, ps, eo, e4⟩ => ?_
  subst eo e4
  have I5 : Inv X pins σ H4 { s4 with heap := s4.heap.push { cls := .type "slice", data := .fields #[vl, vu, vs] } } := I4.kept (t' := s4.toks) fun b ob q => Heap.get?_push_of_some _ q
  show wpAny (model X.prog X.w) X.A (subscriptTail e (.Slice none none (some (.UnaryOp .USub (.Constant (.int 1) k p1) p2)) p3) (.ref a) (.ref s4.heap.objs.size)) (EP X pins σ Q) X.xe { s4 with heap := s4.heap.push { cls := .type "slice", data := .fields #[vl, vu, vs] } }
  rcases q with ⟨hx, q⟩ | ⟨hx, q⟩
  · obtain ⟨its, r, ht, hz⟩ := I5.list hx
    have hlen := r.length
    refine tail_any (ops := [.ref a, .ref s4.heap.objs.size]) ht.isList.typeIs (PySem.slot_list_getitem.lookup) ?_ (by with_unfolding_all rfl)
    refine wpAny_getItem_list_slice ht.isList (Heap.IsSliceOf.new _ vl vu vs) pl pu ps (by decide) ?_ (by rw [List.size_toArray]; omega)
    rw [PySem.W.krv_pick]
    refine ⟨.ref _, _, I5.laid (t' := s4.toks) (o := .lst xs.reverse) (fun b ob q => Heap.get?_push_of_some _ q) (Nat.le_refl _) ?_, rfl, q _ (I5.hok.fresh (Nat.le_refl _))⟩
    exact ⟨by rw [List.length_reverse]; exact hz, _, 0, r.reverse, Heap.get?_push_size _ rfl⟩
  · obtain ⟨its, r, ht, hz⟩ := I5.tuple hx
    have hlen := r.length
    refine tail_any (ops := [.ref a, .ref s4.heap.objs.size]) ht.typeIs (PyProof.Rows.slot_tuple_getitem.lookup) ?_ (by with_unfolding_all rfl)
    refine HT.getItem_tuple_rev ht (Heap.IsSliceOf.new _ vl vu vs) pl pu ps ?_ (by rw [List.size_toArray]; omega)
    refine ⟨.ref _, _, I5.laid (t' := s4.toks) (o := .tup xs.reverse) (fun b ob q => Heap.get?_push_of_some _ q) (Nat.le_refl _) ?_, rfl, q _ (I5.hok.fresh (Nat.le_refl _))⟩
    exact ⟨by rw [List.length_reverse]; exact hz, _, r.reverse, ⟨_, Heap.get?_push_size _ rfl, rfl, _, rfl⟩⟩
end
end L2
namespace DL
open PySem PySem.Spec PyProof.Rows L2
def gRev : D → Option OutV := fun d => match d with
  | .list ds => some (.nl ds.reverse)
  | .tuple ds => some (.nt ds.reverse)
  | _ => none
theorem de_rev {X : Cx} {e : Expr} {fe : Fe} {k : Nat} {p1 p2 p3 pos : Pos} (he : DE X e fe) : DE X (.Subscript e (.Slice none none (some (.UnaryOp .USub (.Constant (.int 1) k p1) p2)) p3) pos) (fop1 gRev fe) := by
  intro P T σ ρ H rv ρ' S hf Q q
  simp only [fop1, Option.bind_eq_some_iff, Option.map_eq_some_iff] at hf
  obtain ⟨⟨r, ρ1⟩, h1, d, h3, o, h5, h6⟩ := hf
  cases h6
  refine PE.we (pe_revA peW) (he P T σ ρ H r ρ1 S h1 _ fun v H1 T1 A => ?_)
  have V := A.val.top A.sim h3
  match d, h5 with
  | .list ds, h5 =>
    cases h5
    obtain ⟨a, xs, rfl, h2, h4⟩ := top_lst V
    refine ⟨a, xs, rfl, .inl ⟨.inl h2, ?_⟩⟩
    exact does_fin (o := .nl ds.reverse) (w := fun Q => ∀ p, H1 p = none → Q (.ref p) (upd H1 p (.lst xs.reverse))) A.sim A.stp A.kp A.tx.tg ⟨_, h4.reverse, fun Q hq => hq⟩ q
  | .tuple ds, h5 =>
    cases h5
    obtain ⟨a, xs, rfl, h2, h4⟩ := top_tup V
    refine ⟨a, xs, rfl, .inr ⟨.inl h2, ?_⟩⟩
    exact does_fin (o := .nt ds.reverse) (w := fun Q => ∀ p, H1 p = none → Q (.ref p) (upd H1 p (.tup xs.reverse))) A.sim A.stp A.kp A.tx.tg ⟨_, h4.reverse, fun Q hq => hq⟩ q
end DL
set_option Elab.async false
set_option linter.all false
set_option maxRecDepth 100000
set_option maxHeartbeats 2000000
namespace DL
open PySem PySem.Spec PyProof.Rows L2
/-- sorting by putting in: what the kernel can compute -/
def putIn {α : Type} (le : α → α → Bool) (x : α) : List α → List α
  | [] => [x]
  | y :: ys => if le x y then x :: y :: ys else y :: putIn le x ys
def sortBy {α : Type} (le : α → α → Bool) : List α → List α
  | [] => []
  | x :: xs => putIn le x (sortBy le xs)
theorem putIn_perm {α : Type} (le : α → α → Bool) (x : α) : ∀ l : List α, (putIn le x l).Perm (x :: l)
  | [] => .refl _
  | y :: ys => by
    unfold putIn
    split
    · exact .refl _
    · exact ((putIn_perm le x ys).cons y).trans (.swap x y ys)
theorem sortBy_perm {α : Type} (le : α → α → Bool) : ∀ l : List α, (sortBy le l).Perm l
  | [] => .refl _
  | x :: xs => (putIn_perm le x _).trans ((sortBy_perm le xs).cons x)
theorem putIn_up {α : Type} {le : α → α → Bool} (tr : ∀ a b c, le a b = true → le b c = true → le a c = true) (tot : ∀ a b, le a b = true ∨ le b a = true) (x : α) : ∀ {l : List α}, l.Pairwise (fun a b => le a b = true) → (putIn le x l).Pairwise (fun a b => le a b = true)
  | [], _ => by simp [putIn]
  | y :: ys, h => by
    obtain ⟨h1, h2⟩ := List.pairwise_cons.mp h
    unfold putIn
    split
    · rename_i e
      refine List.pairwise_cons.mpr ⟨fun z hz => ?_, h⟩
      rcases List.mem_cons.mp hz with rfl | hz
      · exact e
      · exact tr _ _ _ e (h1 z hz)
    · rename_i e
      refine List.pairwise_cons.mpr ⟨fun z hz => ?_, putIn_up tr tot x h2⟩
      rcases List.mem_cons.mp ((putIn_perm le x ys).subset hz) with rfl | hz
      · exact (tot z y).resolve_left e
      · exact h1 z hz
theorem sortBy_up {α : Type} {le : α → α → Bool} (tr : ∀ a b c, le a b = true → le b c = true → le a c = true) (tot : ∀ a b, le a b = true ∨ le b a = true) : ∀ l : List α, (sortBy le l).Pairwise (fun a b => le a b = true)
  | [] => .nil
  | x :: xs => putIn_up tr tot x (sortBy_up tr tot xs)
def sortI (l : List Int) : List Int := sortBy (fun x y => decide (x ≤ y)) l
theorem sorted_one {α : Type} (le : α → α → Prop) (anti : ∀ a b, le a b → le b a → a = b) (rf : ∀ a, le a a) : ∀ {a b : List α}, a.Perm b → a.Pairwise le → b.Pairwise le → a = b
  | [], b, h, _, _ => (List.Perm.nil_eq h)
  | x :: r, [], h, _, _ => absurd h.length_eq (by simp)
  | x :: r, y :: t, h, ha, hb => by
    have hx : x ∈ y :: t := h.subset (List.mem_cons_self ..)
    have hy : y ∈ x :: r := h.symm.subset (List.mem_cons_self ..)
    have h1 : le x y := by
      cases List.mem_cons.mp hy with
      | inl e => rw [e]; exact rf _
      | inr m => exact (List.pairwise_cons.mp ha).1 y m
    have h2 : le y x := by
      cases List.mem_cons.mp hx with
      | inl e => rw [e]; exact rf _
      | inr m => exact (List.pairwise_cons.mp hb).1 x m
    have e : x = y := anti _ _ h1 h2
    subst e
    rw [sorted_one le anti rf h.cons_inv (List.pairwise_cons.mp ha).2 (List.pairwise_cons.mp hb).2]
theorem sortI_eq {a b : List Int} (h : a.Perm b) (ha : a.Pairwise (· ≤ ·)) : a = sortI b := by
  refine sorted_one (· ≤ ·) (fun a b h1 h2 => by omega) (fun a => by omega) (h.trans (sortBy_perm _ b).symm) ha ?_
  have hs := sortBy_up (le := fun x y : Int => decide (x ≤ y)) (by intro x y z hxy hyz; simp only [decide_eq_true_eq] at *; omega) (by intro x y; simp only [decide_eq_true_eq]; omega) b
  simpa [sortI] using hs
/-- a new list, whichever objects it holds -/
def DoesL (S : Addr → Prop) (H : Hp) (ds : List D) (w : VK → Prop) : Prop := ∀ Q : VK, (∀ xs p, RepA S H xs ds → H p = none → Q (.ref p) (upd H p (.lst xs))) → w Q
def OpL (r : List V → Hp → VK → Prop) (g : List D → Option OutV) : Prop := ∀ S H xs ds o, TopA S H xs ds → g ds = some o → ∃ es, o = .nl es ∧ DoesL S H es (r xs H)
theorem opL_core {X : Cx} {es : List Expr} {fs : Fa} {r : List V → Hp → VK → Prop} {g : List D → Option OutV} (ha : DA X es fs) (hg : OpL r g) {P T σ ρ H rv ρ'} (S : Sim P T σ ρ H) (hf : fopA g fs ρ = some (rv, ρ')) {Q : VK}
    (q : ∀ v H' T', Aft P T σ ρ H rv ρ' v H' T' → Q v H') : WA X es σ H fun xs H1 => r xs H1 Q := by
  simp only [fopA, Option.bind_eq_some_iff, Option.map_eq_some_iff] at hf
  obtain ⟨⟨rs, ρ1⟩, h1, ds, h3, o, h5, h6⟩ := hf
  cases h6
  refine ha P T σ ρ H rs ρ1 S h1 _ fun vs H1 T1 _ A1 => ?_
  obtain ⟨es', rfl, hd⟩ := hg _ _ vs ds o (A1.val.top A1.sim h3) h5
  refine hd Q fun xs p hr hp => ?_
  exact does_fin (o := .nl es') (w := fun Q => ∀ p, H1 p = none → Q (.ref p) (upd H1 p (.lst xs))) A1.sim A1.stp A1.kp A1.tg ⟨xs, hr, fun Q q => q⟩ q p hp
theorem de_callBL {X : Cx} {es : List Expr} {fs : Fa} {pos : Pos} {x : Str} {id : String} {e : Expr} {p : Pos} {r : List V → Hp → VK → Prop} {g : List D → Option OutV} (hc : CallR X (.builtin id) r) (hg : OpL r g) (hgl : Gl X x) (hm : X.mg x = none) (hv : bootBuiltins x = some (.builtin id)) (ha : DA X (e :: es) fs) (hn : x ≠ "__name__" := by decide) (hdb : (x == ("__debug__" : Str)) = false := by decide)
    (he : starEach (e :: es) X.env = (false, eval e X.env) :: starEach es X.env := by rfl) (hpl : (backTo pos (starEach es X.env)).any (·.1) = false := by rfl) : DE X (.Call (.Name x p) (e :: es) [] pos) (fopA g fs) :=
  fun P T σ ρ H rv ρ' S hf Q q => PE.we (pe_callB hc hgl hm hv paW hn hdb he hpl) (opL_core ha hg S hf q)
section
variable {P : Pk} {T T2 T3 I : Addr → Prop} {σ0 σ : SS} {ρ0 ρ : En} {H0 H H' : Hp} {ns : Nl} {m : Nat}
theorem PIn.drop (p : PIn P T σ0 ρ0 H0 σ ρ ns m H T2 I) {j : Nat} {x : Option V} (hj : ∀ s ds, (s, ds) ∈ ns → s ≠ j) : PIn P T σ0 ρ0 H0 (σ.set j x) (ρ.set j none) ns m H T2 I := by
  obtain ⟨S3, ow3⟩ := p.sim.drop (i := j) (x := x)
  have st3 : Stp σ ρ H (σ.set j x) (ρ.set j none) H := ⟨fun _ _ h _ => h, fun b q => .inl (ow3 b q), fun b o h => ⟨o, h⟩⟩
  refine ⟨S3, p.tg, p.stp.trans st3, p.inn, fun s ds h => ?_, p.dom⟩
  obtain ⟨h1, a, vs, h2, h3, h4, h5, h6, h7, h8⟩ := p.nst s ds h
  have hs := hj s ds h
  exact ⟨by rw [List.getElem?_set_ne (Ne.symm hs)]; exact h1, a, vs, by rw [List.getElem?_set_ne (Ne.symm hs)]; exact h2, h3, h4, h5, h6, h7, fun z => rep_step st3 (h8 z)⟩
end
section
end
section
end
end DL
set_option Elab.async false
set_option linter.all false
set_option maxRecDepth 100000
set_option maxHeartbeats 1000000
namespace DL
open PySem PySem.Spec PyProof.Rows L2
section
end
end DL
set_option Elab.async false
set_option linter.all false
set_option maxRecDepth 100000
set_option maxHeartbeats 1000000
namespace DL
open PySem PySem.Spec PyProof.Rows L2
/-- a call whose box is a new list, which nobody sees behind -/
def fcallF (F : FS) (f : Fe) : Fe := fun ρ => (f ρ).bind fun x => match x.1 with
  | .fr (.list es) => if es.all atom = true then (F [.list es]).bind fun r => if (atom r.d && r.bx.all atom && !r.fr) = true then some (.sh r.d, x.2) else none else none
  | _ => none
theorem de_callF {X : Cx} {F : FS} {f : Fe} {lv : Nat} {fa : Addr} {fd : FuncData} {ps : List Str} {x : Str} {p pos : Pos} {e : Expr} (FO : FnG X.prog X.w X.K X.mg X.base CX0 lv fa fd ps (spD (some 0) F)) (hr : RoomG lv X.A) (hg : Gl X x) (hm : X.mg x = some (.ref fa)) (hk : PySem.W.keepIn X.K (.ref fa) = true) (hb : Binds X.K fd ps [])
    (ha : DE X e f) (hdb : (x == ("__debug__" : Str)) = false := by decide) (he : starEach [e] X.env = (false, eval e X.env) :: starEach [] X.env := by rfl) (hpl : (backTo pos (starEach [] X.env)).any (·.1) = false := by rfl) :
    DE X (.Call (.Name x p) [e] [] pos) (fcallF F f) := by
  intro P T σ ρ H r ρ' S hf Q q
  simp only [fcallF, Option.bind_eq_some_iff] at hf
  obtain ⟨⟨r1, ρ1⟩, h1, h2⟩ := hf
  cases r1 with
  | sh d => cases h2
  | al j => cases h2
  | fr d =>
    cases d with
    | list es =>
      simp only at h2
      by_cases hat : es.all atom = true
      · rw [if_pos hat, Option.bind_eq_some_iff] at h2
        obtain ⟨fr, h3, h4⟩ := h2
        by_cases hc : (atom fr.d && fr.bx.all atom && !fr.fr) = true
        · rw [if_pos hc] at h4
          cases h4
          simp only [Bool.and_eq_true, Bool.not_eq_true'] at hc
          obtain ⟨⟨c1, c2⟩, c3⟩ := hc
          have hfs : fcons f fnil ρ = some ([.fr (.list es)], ρ') := by
            simp only [fcons, fnil, h1, Option.bind_some]
          refine PE.we (pe_callG FO hr hg hm hk hb pass0 paW hdb he hpl) (da_cons ha da_nil he P T σ ρ H _ ρ' S hfs _ fun vs H1 T1 hlen A => ?_)
          rw [List.append_nil]
          match vs, hlen, A with
          | [v], _, A =>
            obtain ⟨a, o, e1, ta, hHa, h0, hrep⟩ := A.val.1
            subst e1
            cases hrep with
            | @lst xs _ hrep =>
            have hn : H a = none := by
              obtain ⟨a2, e3, e4, _⟩ := A.tx.1 _ rfl
              cases e3
              exact e4
            refine ⟨fun b => (∃ o, H1 b = some o) ∧ b ≠ a, [.list es], fr, h3, ⟨rfl, fun i v d hk h1 h2 => ?_, fun i v d hk h1 h2 => ?_, fun b zs hz => ⟨⟨_, hz⟩, fun z => by subst z; rw [hHa] at hz; cases hz⟩⟩, fun v' H' T3 po => ?_⟩
            · match i with
              | 0 => exact absurd rfl hk
              | i + 1 => simp at h1
            · obtain rfl : 0 = i := Option.some.inj hk
              simp at h1 h2
              subst h1
              subst h2
              exact ⟨a, xs, es, rfl, rfl, hHa, hrep.atoms hat, fun z => z.2 rfl⟩
            · obtain ⟨xs', z1, z2⟩ := po.bx a ⟨0, rfl, rfl⟩
              have Sw := A.sim.wtmp (o := .lst xs') ta h0
              have up : ∀ b o, upd H1 a (.lst xs') b = some o → H' b = some o := fun b o e => by
                by_cases hb : b = a
                · subst hb
                  rw [upd_same] at e
                  cases e
                  exact z1
                · rw [upd_ne hb] at e
                  exact po.keep b o e fun ⟨i, w1, w2⟩ => by
                    obtain rfl : 0 = i := Option.some.inj w1
                    simp at w2
                    exact hb w2.symm
              obtain ⟨Sg, stg⟩ := Sw.grow .refl up (fun b hb => by
                obtain ⟨o, e⟩ := (Sw.tn b hb).1
                exact ⟨o, up b o e⟩)
              exact q v' H' T (aft_sh Sg ((A.stp.wtmp hn).trans stg) A.kp A.tg ((po.res c3).atom c1))
        · rw [if_neg hc] at h4; cases h4
      · rw [if_neg hat] at h2; cases h2
    | _ => cases h2
end DL
set_option Elab.async false
set_option linter.all false
set_option maxRecDepth 100000
set_option maxHeartbeats 1000000
namespace DL
open PySem PySem.Spec PyProof.Rows L2
end DL
set_option Elab.async false
set_option linter.all false
set_option maxRecDepth 100000
set_option maxHeartbeats 2000000
namespace DL
open PySem PySem.Spec PyProof.Rows L2
/-- the head of a dict with tuple keys -/
abbrev hdT : D × D := (.none, .none)
def fdctT : Fe := fun ρ => some (.fr (.dict [hdT]), ρ)
section
variable {P : Pk} {T T' : Addr → Prop} {σ : SS} {ρ ρ' : En} {H H' : Hp}
/-- a new object that is empty of parts -/
theorem aft_new {p : Addr} {o : HO} {d : D} (S : Sim P T σ ρ H) (hp : H p = none) (hc : ∀ S' H', OwnC S' H' o d) : Aft P T σ ρ H (.fr d) ρ (.ref p) (upd H p o) fun b => T b ∨ b = p := by
  obtain ⟨S2, st2⟩ := S.alloc (o := o) hp (hc (fun _ => True) H).ntup
  exact ⟨S2, st2, .refl, ⟨p, rfl, hp, rfl⟩, p, _, rfl, .inr rfl, upd_same, h0_none S hp, hc _ _⟩
end
theorem de_dct0T {X : Cx} {pos : Pos} : DE X (.Dict [] [] pos) fdctT := by
  intro P T σ ρ H r ρ' S hf Q q
  cases hf
  exact PE.we pe_dnewT fun p hp => q _ _ _ (aft_new S hp fun _ _ => .dct rfl (.cons .non .nil))
end DL
set_option Elab.async false
set_option linter.all false
set_option maxRecDepth 100000
set_option maxHeartbeats 2000000
namespace DL
open PySem PySem.Spec PyProof.Rows L2
/-- data that are a key's part -/
def kOf : D → Option Key
  | .int i => some (.inl i)
  | .str x => some (.inr x)
  | _ => none
def ksOf : List D → Option (List Key)
  | [] => some []
  | d :: ds => (kOf d).bind fun k => (ksOf ds).map fun ks => k :: ks
theorem kOf_kD {k : Key} : kOf (kD k) = some k := by cases k <;> rfl
theorem kD_of {d : D} {k : Key} (h : kOf d = some k) : d = kD k := by
  cases d with
  | int i => cases h; rfl
  | str x => cases h; rfl
  | _ => cases h
theorem ksOf_eq : ∀ {ds : List D} {ks : List Key}, ksOf ds = some ks → ds = ks.map kD
  | [], ks, h => by cases h; rfl
  | d :: ds, ks, h => by
    simp only [ksOf, Option.bind_eq_some_iff, Option.map_eq_some_iff] at h
    obtain ⟨k, h1, ks', h2, rfl⟩ := h
    rw [kD_of h1, ksOf_eq h2]; rfl
theorem rep_kV {S : Addr → Prop} {H : Hp} {v : V} {k : Key} (r : Rep S H v (kD k)) : v = kV k := by
  cases k with
  | inl i => cases (show Rep S H v (.int i) from r); rfl
  | inr x => cases (show Rep S H v (.str x) from r); rfl
theorem repA_kV {S : Addr → Prop} {H : Hp} : ∀ {vs : List V} {ks : List Key}, RepA S H vs (ks.map kD) → vs = ks.map kV
  | vs, [], r => by cases r; rfl
  | vs, k :: ks, r => by
    cases (show RepA S H vs (kD k :: ks.map kD) from r) with
    | cons r1 r2 => rw [rep_kV r1, repA_kV r2]; rfl
end DL
set_option Elab.async false
set_option linter.all false
set_option maxRecDepth 100000
set_option maxHeartbeats 2000000
namespace DL
open PySem PySem.Spec PyProof.Rows L2
/-- the value at a key, the key as the dict has it -/
def getD : List (D × D) → (D → Bool) → Option D
  | [], _ => none
  | p :: es, f => if f p.1 then some p.2 else getD es f
def isKT (ks : List Key) (d : D) : Bool := match d with
  | .tuple ds => decide (ksOf ds = some ks)
  | _ => false
def isKK (k : Key) (d : D) : Bool := decide (kOf d = some k)
theorem ksOf_map : ∀ ks : List Key, ksOf (ks.map kD) = some ks
  | [] => rfl
  | k :: ks => by simp only [List.map_cons, ksOf, kOf_kD, ksOf_map ks, Option.bind_some, Option.map_some]
theorem repK_getT {S : Addr → Prop} {H : Hp} (ks : List Key) : ∀ {kvs : List (List Key × V)} {es : List (D × D)}, RepK S H (kvs.map fun p => (.tuple (p.1.map kD), p.2)) es →
    (valV kvs ks = none ∧ getD es (isKT ks) = none) ∨ ∃ v d, valV kvs ks = some v ∧ getD es (isKT ks) = some d ∧ Rep S H v d
  | [], es, r => by cases r; exact .inl ⟨rfl, rfl⟩
  | (k, v) :: kvs, es, r => by
    cases r with
    | @cons _ _ d _ es r1 r2 =>
      by_cases e : k = ks
      · subst e
        refine .inr ⟨v, d, valV_pos rfl, ?_, r1⟩
        simp only [getD, isKT, ksOf_map, decide_true, if_true]
      · have n1 : valV ((k, v) :: kvs) ks = valV kvs ks := by simp [valV, List.find?_cons, e]
        have n2 : getD ((.tuple (k.map kD), d) :: es) (isKT ks) = getD es (isKT ks) := by
          simp only [getD, isKT, ksOf_map]
          rw [if_neg (by simpa using e)]
        rw [n1, n2]
        exact repK_getT ks r2
theorem repK_getK {S : Addr → Prop} {H : Hp} (ks : Key) : ∀ {kvs : List (Key × V)} {es : List (D × D)}, RepK S H (kvs.map fun p => (kD p.1, p.2)) es →
    (valV kvs ks = none ∧ getD es (isKK ks) = none) ∨ ∃ v d, valV kvs ks = some v ∧ getD es (isKK ks) = some d ∧ Rep S H v d
  | [], es, r => by cases r; exact .inl ⟨rfl, rfl⟩
  | (k, v) :: kvs, es, r => by
    cases r with
    | @cons _ _ d _ es r1 r2 =>
      by_cases e : k = ks
      · subst e
        refine .inr ⟨v, d, valV_pos rfl, ?_, r1⟩
        simp only [getD, isKK, kOf_kD, decide_true, if_true]
      · have n1 : valV ((k, v) :: kvs) ks = valV kvs ks := by simp [valV, List.find?_cons, e]
        have n2 : getD ((kD k, d) :: es) (isKK ks) = getD es (isKK ks) := by
          simp only [getD, isKK, kOf_kD]
          rw [if_neg (by simpa using e)]
        rw [n1, n2]
        exact repK_getK ks r2
end DL
set_option Elab.async false
set_option linter.all false
set_option maxRecDepth 100000
set_option maxHeartbeats 2000000
namespace DL
open PySem PySem.Spec PyProof.Rows L2
/-- in its place, or at the end -/
def putD : List (D × D) → (D → Bool) → D → D → List (D × D)
  | [], _, k, d => [(k, d)]
  | p :: es, f, k, d => if f p.1 then (p.1, d) :: es.map (fun q => if f q.1 then (q.1, d) else q) else p :: putD es f k d
def mapK {κ : Type} [DecidableEq κ] (kvs : List (κ × V)) (k : κ) (v : V) : List (κ × V) := kvs.map fun kv => if kv.1 = k then (kv.1, v) else kv
theorem putK_cons {κ : Type} [DecidableEq κ] (p : κ × V) (kvs : List (κ × V)) (k : κ) (v : V) : putK (p :: kvs) k v = if p.1 = k then (p.1, v) :: mapK kvs k v else p :: putK kvs k v := by
  unfold putK mapK
  by_cases e : p.1 = k
  · simp [e]
  · by_cases h : (kvs.any fun kv => decide (kv.1 = k)) = true
    · simp only [List.any_cons, h, Bool.or_true, if_true, List.map_cons, if_neg e]
    · simp only [List.any_cons, decide_eq_false e, Bool.false_or, h, if_false, if_neg e, List.cons_append]
      rfl
theorem repK_mapT {S : Addr → Prop} {H : Hp} (ks : List Key) {v : V} {d : D} (rv : Rep S H v d) : ∀ {kvs : List (List Key × V)} {es : List (D × D)}, RepK S H (kvs.map fun p => (.tuple (p.1.map kD), p.2)) es →
    RepK S H ((mapK kvs ks v).map fun p => (.tuple (p.1.map kD), p.2)) (es.map fun q => if isKT ks q.1 then (q.1, d) else q)
  | [], es, r => by cases r; exact .nil
  | (k, w) :: kvs, es, r => by
    cases r with
    | @cons _ _ e _ es r1 r2 =>
      have ih := repK_mapT ks rv r2
      by_cases z : k = ks
      · subst z
        simp only [mapK, List.map_cons, if_true, isKT, ksOf_map, decide_true]
        exact .cons rv ih
      · have n : isKT ks (.tuple (k.map kD)) = false := by simp only [isKT, ksOf_map]; simpa using z
        simp only [mapK, List.map_cons, if_neg z, n, Bool.false_eq_true, if_false]
        exact .cons r1 ih
theorem repK_putT {S : Addr → Prop} {H : Hp} (ks : List Key) {v : V} {d : D} (rv : Rep S H v d) : ∀ {kvs : List (List Key × V)} {es : List (D × D)}, RepK S H (kvs.map fun p => (.tuple (p.1.map kD), p.2)) es →
    RepK S H ((putK kvs ks v).map fun p => (.tuple (p.1.map kD), p.2)) (putD es (isKT ks) (.tuple (ks.map kD)) d)
  | [], es, r => by cases r; exact .cons rv .nil
  | (k, w) :: kvs, es, r => by
    cases r with
    | @cons _ _ e _ es r1 r2 =>
      rw [putK_cons]
      by_cases z : k = ks
      · subst z
        simp only [if_true, putD, isKT, ksOf_map, decide_true, List.map_cons]
        exact .cons rv (repK_mapT k rv r2)
      · have n : isKT ks (.tuple (k.map kD)) = false := by simp only [isKT, ksOf_map]; simpa using z
        simp only [if_neg z, putD, n, Bool.false_eq_true, if_false, List.map_cons]
        exact .cons r1 (repK_putT ks rv r2)
end DL
set_option Elab.async false
set_option linter.all false
set_option maxRecDepth 100000
set_option maxHeartbeats 2000000
namespace DL
open PySem PySem.Spec PyProof.Rows L2
def hdOf : List (D × D) → Bool
  | (.none, _) :: _ => true
  | _ => false
/-- what the data of a dict have at a key; none: a key of another kind -/
def lookD (es : List (D × D)) : D → Option (Option D)
  | .tuple ds => if hdOf es && !isX es then (ksOf ds).map fun ks => getD es.tail (isKT ks) else none
  | k => if hdOf es then none else (kOf k).map fun kk => getD es (isKK kk)
/-- the data behind d[k] = v -/
def putKey (es : List (D × D)) (v : D) : D → Option (List (D × D))
  | .tuple ds => if hdOf es then (ksOf ds).bind fun ks => if es.length < 16777216 then some ((.none, .none) :: putD es.tail (isKT ks) (.tuple ds) v) else none else none
  | k => if hdOf es then none else (kOf k).bind fun kk => if es.length < 16777216 then some (putD es (isKK kk) k v) else none
def szD (es : List (D × D)) : Nat := if hdOf es then es.length - 1 else es.length
section
variable {S : Addr → Prop} {H : Hp}
theorem kD_none {k : Key} : kD k ≠ .none := by cases k <;> exact nofun
/-- a dict with a head has tuple keys -/
theorem dOf_head {o : HO} {ps : List (D × V)} {z : D} {es : List (D × D)} (h : dOf o = some ps) (r : RepK S H ps ((.none, z) :: es)) : ∃ kvs, o = .dT kvs ∧ z = .none ∧ ps = (.none, .non) :: kvs.map (fun p => (.tuple (p.1.map kD), p.2)) ∧ RepK S H (kvs.map fun p => (.tuple (p.1.map kD), p.2)) es := by
  cases o with
  | dK kvs =>
    cases h
    cases kvs with
    | nil => cases r
    | cons p kvs =>
      exfalso
      generalize hk : kD p.1 = k at r
      simp only [List.map_cons, hk] at r
      cases r
      exact kD_none hk
  | dT kvs =>
    cases h
    cases r with
    | cons r1 r2 => cases r1; exact ⟨kvs, rfl, rfl, rfl, r2⟩
  | _ => cases h
theorem dOf_nohead {o : HO} {ps : List (D × V)} {es : List (D × D)} (h : dOf o = some ps) (r : RepK S H ps es) (n : ∀ z es', es ≠ (.none, z) :: es') : ∃ kvs, o = .dK kvs ∧ ps = kvs.map (fun p => (kD p.1, p.2)) ∧ RepK S H (kvs.map fun p => (kD p.1, p.2)) es := by
  cases o with
  | dK kvs => cases h; exact ⟨kvs, rfl, rfl, r⟩
  | dT kvs =>
    cases h
    cases r with
    | cons r1 r2 => exact absurd rfl (n _ _)
  | _ => cases h
theorem es_head (es : List (D × D)) : (hdOf es = true ∧ ∃ z es', es = (.none, z) :: es') ∨ hdOf es = false ∧ ∀ z es', es ≠ (.none, z) :: es' := by
  cases es with
  | nil => exact .inr ⟨rfl, fun _ _ => nofun⟩
  | cons p es =>
    obtain ⟨k, d⟩ := p
    cases k with
    | none => exact .inl ⟨rfl, _, _, rfl⟩
    | _ => exact .inr ⟨rfl, fun _ _ => nofun⟩
theorem isX_hd {es : List (D × D)} (h : hdOf es = false) : isX es = false := by
  rcases es with _ | ⟨⟨k, v⟩, es⟩
  · rfl
  · cases k <;> first | rfl | cases h
theorem lookD_tuple {es : List (D × D)} {ds : List D} : lookD es (.tuple ds) = if hdOf es && !isX es then (ksOf ds).map fun ks => getD es.tail (isKT ks) else none := rfl
theorem lookD_k {es : List (D × D)} {k : D} (h : ∀ ds, k ≠ .tuple ds) : lookD es k = if hdOf es then none else (kOf k).map fun kk => getD es (isKK kk) := by
  cases k with
  | tuple ds => exact absurd rfl (h ds)
  | _ => rfl
theorem rep_tuple {v : V} {ds : List D} (r : Rep S H v (.tuple ds)) : ∃ a xs, v = .ref a ∧ H a = some (.tup xs) ∧ RepA S H xs ds := by
  cases r with
  | tup h1 h2 h3 => exact ⟨_, _, rfl, h2, h3⟩
theorem dget_k {a : Addr} {kvs : List (Key × V)} {k : Key} (e : Rd H a (.dK kvs)) : DGet H a (kV k) (valV kvs k) := Or.inl ⟨kvs, k, e, rfl, rfl⟩
theorem dget_t {a b : Addr} {kvs : List (List Key × V)} {k : List Key} (e : Rd H a (.dT kvs)) (eb : H b = some (.tup (k.map kV))) : DGet H a (.ref b) (valV kvs k) := Or.inr ⟨kvs, k, b, e, rfl, eb, rfl⟩
theorem top_dct {v : V} {es : List (D × D)} (h : Top S H v (.dict es)) (hx : isX es = false) : ∃ a o ps, v = V.ref a ∧ RdK H a o ∧ dOf o = some ps ∧ RepK S H ps es := by
  obtain ⟨a, e, k, _⟩ := (show ∃ a, v = V.ref a ∧ (isX es = false → ∃ o ps, RdK H a o ∧ dOf o = some ps ∧ RepK S H ps es) ∧ (isX es = true → Rep S H (.ref a) (.dict es)) from h)
  obtain ⟨o, ps, k⟩ := k hx
  exact ⟨a, o, ps, e, k⟩
/-- a look-up -/
theorem look_spec {x y : V} {es : List (D × D)} {k : D} {r : Option D} (hx : Top S H x (.dict es)) (hy : Top S H y k) (h : lookD es k = some r) :
    ∃ a o', x = .ref a ∧ DGet H a y o' ∧ ((o' = none ∧ r = none) ∨ ∃ v d, o' = some v ∧ r = some d ∧ Rep S H v d) := by
  have nx : isX es = false := by
    by_cases ht : ∃ ds, k = .tuple ds
    · obtain ⟨ds, rfl⟩ := ht
      rw [lookD_tuple] at h
      cases e : isX es with
      | false => rfl
      | true => rw [e, Bool.not_true, Bool.and_false] at h; cases h
    · rw [lookD_k fun ds e => ht ⟨ds, e⟩] at h
      cases e : hdOf es with
      | false => exact isX_hd e
      | true => rw [e] at h; cases h
  obtain ⟨a, o, ps, rfl, h1, h2, h3⟩ := top_dct hx nx
  by_cases ht : ∃ ds, k = .tuple ds
  · obtain ⟨ds, rfl⟩ := ht
    obtain ⟨b, xs, rfl, hb, ha⟩ := rep_tuple (show Rep S H y (.tuple ds) from hy)
    rw [lookD_tuple, nx, Bool.not_false, Bool.and_true] at h
    rcases es_head es with ⟨hh, z, es', rfl⟩ | ⟨hh, n⟩
    · rw [if_pos hh] at h
      simp only [Option.map_eq_some_iff] at h
      obtain ⟨ks, e1, e2⟩ := h
      obtain ⟨kvs, rfl, _, _, r2⟩ := dOf_head h2 h3
      rw [ksOf_eq e1] at ha
      rw [repA_kV ha] at hb
      refine ⟨a, _, rfl, dget_t h1.rd hb, ?_⟩
      rcases repK_getT ks r2 with ⟨q1, q2⟩ | ⟨v, d, q1, q2, q3⟩
      · exact .inl ⟨q1, by rw [← e2]; exact q2⟩
      · exact .inr ⟨v, d, q1, by rw [← e2]; exact q2, q3⟩
    · rw [hh] at h; cases h
  · have ht : ∀ ds, k ≠ .tuple ds := fun ds e => ht ⟨ds, e⟩
    rw [lookD_k ht] at h
    rcases es_head es with ⟨hh, z, es', rfl⟩ | ⟨hh, n⟩
    · rw [if_pos hh] at h; cases h
    · rw [hh, if_neg Bool.false_ne_true] at h
      simp only [Option.map_eq_some_iff] at h
      obtain ⟨kk, e1, e2⟩ := h
      obtain ⟨kvs, rfl, _, r2⟩ := dOf_nohead h2 h3 n
      have hk := kD_of e1
      subst hk
      have hy' : Rep S H y (kD kk) := by cases kk <;> exact hy
      cases rep_kV hy'
      refine ⟨a, _, rfl, dget_k h1.rd, ?_⟩
      rcases repK_getK kk r2 with ⟨q1, q2⟩ | ⟨v, d, q1, q2, q3⟩
      · exact .inl ⟨q1, by rw [← e2]; exact q2⟩
      · exact .inr ⟨v, d, q1, by rw [← e2]; exact q2, q3⟩
end
def gDnin : D → D → Option OutV := fun k d => match d with
  | .dict es => (lookD es k).map fun r => .it (.bool (!r.isSome))
  | _ => none
def gDget : D → D → Option OutV := fun d k => match d with
  | .dict es => (lookD es k).bind fun r => r.map .it
  | _ => none
def rDnin : R2 := fun y x H Q => ∃ a o, x = .ref a ∧ DGet H a y o ∧ Q (.bl (!o.isSome)) H
def rDget : R2 := fun x y H Q => ∃ a v, x = .ref a ∧ DGet H a y (some v) ∧ Q v H
section
variable {X : Cx}
theorem op_dnin (hu : X.A.units + 64 < cLine) : OpR X (compareOp .NotIn) rDnin := by
  intro pins s σ H y x iv u Q I ry rx ⟨a, ov, ex, g, q⟩
  subst ex
  obtain rfl : u = Value.ref a := rx
  exact d_notIn (by omega) I g ry fun s3 I3 => ⟨.bl (!ov.isSome), H, I3, rfl, q⟩
theorem ix_dict (hu : X.A.units + 64 < cLine) : IxR X rDget := by
  intro value slice pins s σ H x y v u Q I rx ry ⟨a, w, ex, g, q⟩ hs
  subst ex
  obtain rfl : v = Value.ref a := rx
  exact tail_any (dict_typeIs I g) PySem.F.slot_dict_getitem.lookup (d_getItem (by omega) I g ry fun w' s3 I3 rw' => ⟨w, H, I3, rw', q⟩) hs
theorem op2_dnin : Op2 rDnin gDnin := by
  intro S H x y dx dy o hx hy hg
  cases dy with
  | dict es =>
    simp only [gDnin, Option.map_eq_some_iff] at hg
    obtain ⟨r, h1, rfl⟩ := hg
    obtain ⟨a, o', rfl, g, h2⟩ := look_spec hy hx h1
    have e : o'.isSome = r.isSome := by
      rcases h2 with ⟨e1, e2⟩ | ⟨v, d, e1, e2, _⟩
      · rw [e1, e2]; rfl
      · rw [e1, e2]; rfl
    exact Does.bl fun Q q => ⟨a, o', rfl, g, by rw [e]; exact q⟩
  | _ => cases hg
theorem op2_dget : Op2 rDget gDget := by
  intro S H x y dx dy o hx hy hg
  cases dx with
  | dict es =>
    simp only [gDget, Option.bind_eq_some_iff, Option.map_eq_some_iff] at hg
    obtain ⟨r, h1, d, e3, rfl⟩ := hg
    obtain ⟨a, o', rfl, g, h2⟩ := look_spec hx hy h1
    rcases h2 with ⟨e1, e2⟩ | ⟨v, d', e1, e2, r1⟩
    · rw [e2] at e3; cases e3
    · rw [e2] at e3; cases e3
      subst e1
      exact ⟨v, r1, fun Q q => ⟨a, v, rfl, g, q⟩⟩
  | _ => cases hg
def rLenD : List V → Hp → VK → Prop := fun xs H Q => (∃ a kvs, xs = [V.ref a] ∧ Rd H a (.dK kvs) ∧ Q (.int kvs.length) H) ∨ ∃ (p : Addr) (kvs : List (List Key × V)), xs = [.ref p] ∧ Rd H p (.dT kvs) ∧ Q (.int ((kvs.length : Nat) : Int)) H
theorem call_lenDD : CallR X (.builtin "len") rLenD := by
  intro pins s σ H xs us Q I r h
  rcases h with h | h
  · obtain ⟨a, kvs, rfl, ha, q⟩ := h
    obtain ⟨u, rfl, ru⟩ := vals1 r
    obtain rfl : u = .ref a := ru
    exact d_len I ha fun t s' I' => ⟨.int kvs.length, H, I', ⟨t, rfl⟩, q⟩
  · obtain ⟨p, kvs, rfl, hp, q⟩ := h
    obtain ⟨u, rfl, rx⟩ := vals1 r
    obtain rfl : u = .ref p := rx
    obtain ⟨z, hd, ys, rel, dd⟩ := dt_rd I.hok hp
    have hl : kvs.length = ys.length := Paired.length rel
    refine call_len_dictH hd dd (by rw [← hl]; rw [sizeLine_eq] at z; omega) ?_
    rw [← hl]
    exact ⟨.int ((kvs.length : Nat) : Int), H, I.tok _, ⟨_, rfl⟩, q⟩
def gDlen : List D → Option OutV := fun ds => match ds with
  | [.dict es] => if isX es then none else some (.it (.int (szD es : Nat)))
  | _ => none
theorem repK_len {S : Addr → Prop} {H : Hp} : ∀ {ps : List (D × V)} {es : List (D × D)}, RepK S H ps es → ps.length = es.length
  | _, [], r => by cases r; rfl
  | _, e :: es, r => by
    cases r with
    | cons r1 r2 => simp [repK_len r2]
theorem opA_dlen : OpA rLenD gDlen := by
  intro S H xs ds o hx hg
  match ds, hg with
  | [.dict es], hg =>
    have nx : isX es = false := by
      cases e : isX es with
      | false => rfl
      | true => simp [gDlen, e] at hg
    obtain rfl : OutV.it (.int (szD es : Nat)) = o := by
      have : (if isX es then none else some (OutV.it (.int (szD es : Nat)))) = some o := hg
      rw [nx] at this
      exact Option.some.inj this
    cases hx with
    | cons t r =>
    cases r
    obtain ⟨a, o, ps, rfl, h1, h2, h3⟩ := top_dct t nx
    rcases es_head es with ⟨hh, z, es', rfl⟩ | ⟨hh, n⟩
    · obtain ⟨kvs, rfl, _, _, r2⟩ := dOf_head h2 h3
      have e : kvs.length = szD ((.none, z) :: es') := by
        have := repK_len r2
        rw [List.length_map] at this
        show kvs.length = es'.length + 1 - 1
        omega
      refine Does.int fun Q q => Or.inr ⟨a, kvs, rfl, h1.rd, ?_⟩
      rw [e]; exact q
    · obtain ⟨kvs, rfl, _, r2⟩ := dOf_nohead h2 h3 n
      have e : kvs.length = es.length := by
        have := repK_len r2
        simpa using this
      have e' : szD es = es.length := by
        unfold szD
        rw [hh, if_neg Bool.false_ne_true]
      refine Does.int fun Q q => Or.inl ⟨a, kvs, rfl, h1.rd, ?_⟩
      rw [e]; rw [e'] at q; exact q
end
end DL
set_option Elab.async false
set_option linter.all false
set_option maxRecDepth 100000
set_option maxHeartbeats 2000000
namespace DL
open PySem PySem.Spec PyProof.Rows L2
section
variable {P : Pk} {T T2 : Addr → Prop} {σ : SS} {ρ ρ' : En} {H H' : Hp}
/-- the object of an owned slot is changed -/
theorem Sim.mutO {j : Nat} {fl : Fl} {d d' : D} {a : Addr} {o : HO} (S : Sim P T σ ρ H) (e : ρ[j]? = some (some (fl, d))) (n : fl ≠ .sh) (ea : σ[j]? = some (some (V.ref a))) (kp : ∀ b o, b ≠ a → H b = some o → H' b = some o) (ha : H' a = some o)
    (r : OwnC (Av P T σ ρ) H' o d') : Sim P T σ (ρ.set j (some (fl, d'))) H' ∧ Stp σ ρ H σ (ρ.set j (some (fl, d'))) H' := by
  have hl : j < ρ.length := (List.getElem?_eq_some_iff.mp e).1
  have ownA : Own σ ρ a := ⟨j, fl, d, e, n, ea⟩
  have ow : ∀ b, Own σ (ρ.set j (some (fl, d'))) b → Own σ ρ b := fun b ⟨i, fl', d'', h1, h2, h3⟩ => by
    rcases get_set h1 with ⟨rfl, q⟩ | ⟨_, q⟩
    · exact ⟨i, fl, d, e, n, h3⟩
    · exact ⟨i, fl', d'', q, h2, h3⟩
  have st : Stp σ ρ H σ (ρ.set j (some (fl, d'))) H' := by
    refine ⟨fun b o q nb => kp b o (fun z => nb (by rw [z]; exact ownA)) q, fun b q => .inl (ow b q), fun b o q => ?_⟩
    by_cases hb : b = a
    · subst hb; exact ⟨_, ha⟩
    · exact ⟨o, kp b o hb q⟩
  have av := av_step (P := P) st (Tg.refl (T := T) (H := H))
  have av' : ∀ b o, Av P T σ ρ b → H' b = some o → Av P T σ (ρ.set j (some (fl, d'))) b ∧ H' b = some o := fun b o ⟨h1, h2, h3⟩ q => ⟨⟨h1, fun z => h2 (ow b z), h3⟩, q⟩
  refine ⟨⟨by rw [List.length_set]; exact S.len, fun i d' h => ?_, fun i fl' d' h n' => ?_, fun i k f1 f2 d1 d2 b h1 h2 h3 h4 h5 h6 => ?_, fun i d' b h h3 => ?_, fun i d' h => ?_, fun b q => ⟨?_, fun z => (S.tn b q).2 (ow b z)⟩, fun b o q nb => ?_, fun b o q => ?_, S.sB, fun b zs q => ?_⟩, st⟩
  · rcases get_set h with ⟨rfl, q⟩ | ⟨_, q⟩
    · cases q; exact absurd rfl n
    · obtain ⟨v, q1, q2⟩ := S.sh i d' q
      exact ⟨v, q1, q2.mono av⟩
  · rcases get_set h with ⟨rfl, q⟩ | ⟨hi, q⟩
    · cases q
      exact ⟨a, _, ea, ha, r.mono av'⟩
    · obtain ⟨b, o, q2, q3, q4⟩ := S.ow i fl' d' q n'
      refine ⟨b, o, q2, kp b _ (fun z => ?_) q3, q4.mono av⟩
      subst z
      exact hi (S.dj i j fl' fl d' d b q n' e n q2 ea)
  · have g : ∀ {i : Nat} {f1 : Fl} {d1 : D}, (ρ.set j (some (fl, d')))[i]? = some (some (f1, d1)) → f1 ≠ .sh → ∃ f d, ρ[i]? = some (some (f, d)) ∧ f ≠ Fl.sh := fun {i f1 d1} h h' => by
      rcases get_set h with ⟨rfl, q⟩ | ⟨_, q⟩
      · exact ⟨fl, d, e, n⟩
      · exact ⟨f1, d1, q, h'⟩
    obtain ⟨g1, c1, k1, m1⟩ := g h1 h2
    obtain ⟨g2, c2, k2, m2⟩ := g h3 h4
    exact S.dj i k g1 g2 c1 c2 b k1 m1 k2 m2 h5 h6
  · rcases get_set h with ⟨rfl, q⟩ | ⟨_, q⟩
    · cases q; exact S.new i d b e h3
    · exact S.new i d' b q h3
  · rcases get_set h with ⟨rfl, q⟩ | ⟨_, q⟩
    · cases q; exact S.bx i d e
    · exact S.bx i d' q
  · obtain ⟨o, q1⟩ := (S.tn b q).1
    exact st.dm b o q1
  · by_cases hb : b = a
    · subst hb
      cases fl with
      | sh => exact absurd rfl n
      | ow => rw [S.new j d b e ea] at q; cases q
      | bx => exact absurd ((S.bx j d e).2 b ea) nb
    · exact kp b o hb (S.keep b o q nb)
  · obtain ⟨o', q'⟩ := S.dom b o q
    exact st.dm b o' q'
  · by_cases hb : b = a
    · subst hb
      rw [ha] at q
      exact absurd (Option.some.inj q) (r.ntup zs)
    · cases e1 : H b with
      | none =>
        refine ⟨.inr (h0_none S e1), fun z => ?_⟩
        obtain ⟨⟨u, e2⟩, _⟩ := S.tn b z
        rw [e1] at e2; cases e2
      | some o =>
        have e2 := kp b o hb e1
        rw [q] at e2; cases e2
        exact S.tp b zs e1
theorem repK_up {S : Addr → Prop} {H H' : Hp} {ps : List (D × V)} {es : List (D × D)} (r : RepK S H ps es) (h : ∀ a o, S a → H a = some o → S a ∧ H' a = some o) : RepK S H' ps es := RepK.up h _ _ r
theorem repK_mapK {S : Addr → Prop} {H : Hp} (ks : Key) {v : V} {d : D} (rv : Rep S H v d) : ∀ {kvs : List (Key × V)} {es : List (D × D)}, RepK S H (kvs.map fun p => (kD p.1, p.2)) es →
    RepK S H ((mapK kvs ks v).map fun p => (kD p.1, p.2)) (es.map fun q => if isKK ks q.1 then (q.1, d) else q)
  | [], es, r => by cases r; exact .nil
  | (k, w) :: kvs, es, r => by
    cases r with
    | @cons _ _ e _ es r1 r2 =>
      have ih := repK_mapK ks rv r2
      by_cases z : k = ks
      · subst z
        simp only [mapK, List.map_cons, if_true, isKK, kOf_kD, decide_true]
        exact .cons rv ih
      · have n : isKK ks (kD k) = false := by simp only [isKK, kOf_kD]; simpa using z
        simp only [mapK, List.map_cons, if_neg z, n, Bool.false_eq_true, if_false]
        exact .cons r1 ih
theorem repK_putK {S : Addr → Prop} {H : Hp} (ks : Key) {v : V} {d : D} (rv : Rep S H v d) : ∀ {kvs : List (Key × V)} {es : List (D × D)}, RepK S H (kvs.map fun p => (kD p.1, p.2)) es →
    RepK S H ((putK kvs ks v).map fun p => (kD p.1, p.2)) (putD es (isKK ks) (kD ks) d)
  | [], es, r => by cases r; exact .cons rv .nil
  | (k, w) :: kvs, es, r => by
    cases r with
    | @cons _ _ e _ es r1 r2 =>
      rw [putK_cons]
      by_cases z : k = ks
      · subst z
        simp only [if_true, putD, isKK, kOf_kD, decide_true, List.map_cons]
        exact .cons rv (repK_mapK k rv r2)
      · have n : isKK ks (kD k) = false := by simp only [isKK, kOf_kD]; simpa using z
        simp only [if_neg z, putD, n, Bool.false_eq_true, if_false, List.map_cons]
        exact .cons r1 (repK_putK ks rv r2)
theorem putKey_tuple {es : List (D × D)} {ds : List D} {v : D} : putKey es v (.tuple ds) = if hdOf es then (ksOf ds).bind fun ks => if es.length < 16777216 then some ((.none, .none) :: putD es.tail (isKT ks) (.tuple ds) v) else none else none := rfl
theorem putKey_k {es : List (D × D)} {k v : D} (h : ∀ ds, k ≠ .tuple ds) : putKey es v k = if hdOf es then none else (kOf k).bind fun kk => if es.length < 16777216 then some (putD es (isKK kk) k v) else none := by
  cases k with
  | tuple ds => exact absurd rfl (h ds)
  | _ => rfl
/-- d[k] = v on objects -/
theorem put_spec {S : Addr → Prop} {a : Addr} {o : HO} {ps : List (D × V)} {y v : V} {es es' : List (D × D)} {k d : D} (ha : H a = some o) (ho : dOf o = some ps) (r : RepK S H ps es) (hy : Top S H y k) (rv : Rep S H v d) (h : putKey es d k = some es') :
    ∃ o', DPut H a y v (upd H a o') ∧ ∃ ps', dOf o' = some ps' ∧ RepK S H ps' es' := by
  by_cases ht : ∃ ds, k = .tuple ds
  · obtain ⟨ds, rfl⟩ := ht
    obtain ⟨b, xs, rfl, hb, hx⟩ := rep_tuple (show Rep S H y (.tuple ds) from hy)
    rw [putKey_tuple] at h
    rcases es_head es with ⟨hh, z, es1, rfl⟩ | ⟨hh, n⟩
    · rw [if_pos hh] at h
      simp only [Option.bind_eq_some_iff] at h
      obtain ⟨ks, e1, e2⟩ := h
      split at e2
      · rename_i hl
        cases e2
        obtain ⟨kvs, rfl, rfl, _, r2⟩ := dOf_head ho r
        rw [ksOf_eq e1] at hx
        rw [repA_kV hx] at hb
        have hl' : kvs.length < sizeLine := by
          have := repK_len r2
          rw [List.length_map] at this
          rw [List.length_cons] at hl
          rw [sizeLine_eq, this]; omega
        refine ⟨_, DPut.t ha hb hl', _, rfl, .cons .non ?_⟩
        rw [ksOf_eq e1]
        exact repK_putT ks rv r2
      · cases e2
    · rw [hh] at h; cases h
  · have ht : ∀ ds, k ≠ .tuple ds := fun ds e => ht ⟨ds, e⟩
    rw [putKey_k ht] at h
    rcases es_head es with ⟨hh, z, es1, rfl⟩ | ⟨hh, n⟩
    · rw [if_pos hh] at h; cases h
    · rw [hh, if_neg Bool.false_ne_true] at h
      simp only [Option.bind_eq_some_iff] at h
      obtain ⟨kk, e1, e2⟩ := h
      split at e2
      · rename_i hl
        cases e2
        obtain ⟨kvs, rfl, _, r2⟩ := dOf_nohead ho r n
        have hk := kD_of e1
        subst hk
        have hy' : Rep S H y (kD kk) := by cases kk <;> exact hy
        cases rep_kV hy'
        have hl' : kvs.length < sizeLine := by
          have := repK_len r2
          rw [List.length_map] at this
          rw [sizeLine_eq, this]; exact hl
        exact ⟨_, DPut.k ha hl', _, rfl, repK_putK kk rv r2⟩
      · cases e2
end
/-- d[k] = v, d an owned dict -/
def bdput1 (j : Nat) (fi : Fe) : Fg := fun d ρ => (fi ρ).bind fun x => (dat x.2 x.1).bind fun k => match x.2[j]? with
  | some (some (fl, .dict es)) => if fl = .sh then none else (putKey es d k).map fun es' => x.2.set j (some (fl, .dict es'))
  | _ => none
def bdput (j : Nat) (fi : Fe) : Fg := fun d ρ => match ρ[j]? with
  | some (some (.sh, _)) => none
  | some (some _) => bdput1 j fi d ρ
  | _ => none
theorem bdput_in {j : Nat} {fi : Fe} {d : D} {ρ ρ' : En} (hf : bdput j fi d ρ = some ρ') : (∃ fl d, ρ[j]? = some (some (fl, d)) ∧ fl ≠ Fl.sh) ∧ bdput1 j fi d ρ = some ρ' := by
  unfold bdput at hf
  cases e1 : ρ[j]? with
  | none => rw [e1] at hf; cases hf
  | some x =>
    cases x with
    | none => rw [e1] at hf; cases hf
    | some y =>
      obtain ⟨fl, d⟩ := y
      cases fl with
      | sh => rw [e1] at hf; cases hf
      | ow => rw [e1] at hf; exact ⟨⟨_, _, rfl, by decide⟩, hf⟩
      | bx => rw [e1] at hf; exact ⟨⟨_, _, rfl, by decide⟩, hf⟩
section
variable {X : Cx} {fe : Fe} {pos : Pos}
theorem dg_dput {j : Nat} {x : Str} {i : Expr} {ppos : Pos} (hu : X.A.units + 64 < cLine) (hi : DE X i fe) (hN : X.N[j]? = some x := by rfl) (hv : Vis X.env.scope x := by first | exact Or.inl rfl | exact Or.inr (Or.inl rfl) | exact Or.inr (Or.inr rfl)) (hd : (x == ("__debug__" : Str)) = false := by decide) (hcd : (x == ("__classdict__" : Str)) = false := by decide)
    (ha : ∀ v, assign (.Subscript (.Name x ppos) i pos) X.env v = (do
      let ov ← holding [v] (eval (.Name x ppos) X.env)
      let iv ← holding [v, ov] (eval i X.env)
      standAt pos
      holding [v, ov, iv] (setItem ov iv v)
      release [v, ov, iv] []) := by intro _; rfl) : DG X (.Subscript (.Name x ppos) i pos) [] (bdput j fe) := by
  intro P T σ ρ H v d ρ' S r hb Q q
  obtain ⟨⟨f0, d0, k1, k2⟩, hb⟩ := bdput_in hb
  obtain ⟨a, o0, q2, q3, q4⟩ := S.ow j f0 d0 k1 k2
  simp only [bdput1, Option.bind_eq_some_iff] at hb
  obtain ⟨⟨ri, ρ1⟩, e1, di, e2, e3⟩ := hb
  cases e4 : ρ1[j]? with
  | none => simp only [e4] at e3; cases e3
  | some y =>
    cases y with
    | none => simp only [e4] at e3; cases e3
    | some z =>
      obtain ⟨fl, dl⟩ := z
      cases dl with
      | dict es =>
        simp only [e4] at e3
        by_cases hfl : fl = .sh
        · rw [if_pos hfl] at e3; cases e3
        · rw [if_neg hfl] at e3
          simp only [Option.map_eq_some_iff] at e3
          obtain ⟨es', e5, e6⟩ := e3
          cases e6
          refine PG.wg (pg_sub (pe_var hN hv hd hcd) peW (set_dict (by omega)) ha) ⟨_, q2, hi P T σ ρ H ri ρ1 S e1 _ fun w H1 T1 A => ?_⟩
          have S1 := A.sim.less A.tx.tg.1
          obtain ⟨a', o, z2, z3, z4⟩ := S1.ow j fl _ e4 hfl
          rw [q2] at z2; cases z2
          cases z4 with
          | @dct o ps _ z5 z6 =>
          have r1 : Rep (Av P T σ ρ1) H1 v d := r.mono (av_step A.stp .refl)
          have na : ∀ b, Av P T σ ρ1 b → b ≠ a := fun b hb z => hb.2.1 (by rw [z]; exact ⟨j, fl, _, e4, hfl, q2⟩)
          have tk : Top (Av P T σ ρ1) H1 w di := topLess A.tx.tg.1 (A.val.top A.sim e2)
          obtain ⟨o', hp, ps', w1, w2⟩ := put_spec z3 z5 z6 tk r1 e5
          have kp : ∀ b u, b ≠ a → H1 b = some u → (upd H1 a o') b = some u := fun b u hb e => by rw [upd_ne hb]; exact e
          obtain ⟨S4, st4⟩ := S1.mutO (H' := upd H1 a o') (d' := .dict es') e4 hfl q2 kp upd_same (.dct w1 (repK_up w2 fun b u hb e => ⟨hb, kp b u (na b hb) e⟩))
          exact ⟨a, _, rfl, hp, q σ _ S4 (A.stp.trans st4) ⟨rfl, fun _ _ => rfl, A.kp.trans kp_set⟩⟩
      | _ => simp only [e4] at e3; cases e3
where
  topLess {P : Pk} {T T1 : Addr → Prop} {σ : SS} {ρ1 : En} {H1 : Hp} {w : V} {d : D} (h : ∀ b, T b → T1 b) (t : Top (Av P T1 σ ρ1) H1 w d) : Top (Av P T σ ρ1) H1 w d := by
    have m : ∀ a o, Av P T1 σ ρ1 a → H1 a = some o → Av P T σ ρ1 a ∧ H1 a = some o := fun a o ⟨h1, h2, h3⟩ e => ⟨⟨h1, h2, fun q => h3 (h a q)⟩, e⟩
    cases d with
    | list ds => obtain ⟨a, xs, e1, e2, e3⟩ := t; exact ⟨a, xs, e1, e2, e3.mono m⟩
    | dict es =>
      obtain ⟨a, e1, k, k'⟩ := t
      refine ⟨a, e1, fun z => ?_, fun z => (k' z).mono m⟩
      obtain ⟨o, ps, e2, e3, e4⟩ := k z
      exact ⟨o, ps, e2, e3, RepK.up m _ _ e4⟩
    | _ => exact Rep.mono t m
end
end DL
set_option Elab.async false
set_option linter.all false
set_option maxRecDepth 100000
set_option maxHeartbeats 2000000
namespace DL
open PySem PySem.Spec PyProof.Rows L2
section
variable {X : Cx} {pins : List (Addr × Obj)} {σ : SS} {H : Hp} {s : Shared} {d : Addr} {o : Obj}
theorem Inv.frzT2 {kvs : List (List Key × V)} (I : Inv X pins σ H s) (h : H d = some (.frz o (.dT kvs))) :
    (d == sysModules) = false ∧ s.heap.get? d = some o ∧ o.ExactDict ∧ ∃ (es : Array DictEntry) (ep : Nat) (xs : List (List Key × Addr × Value)), o.data = .dict es ep ∧ es.size = kvs.length ∧
      Paired (fun (p : List Key × V) (q : List Key × Addr × Value) => p.1 = q.1 ∧ H q.2.1 = some (.tup (p.1.map kV)) ∧ RelV p.2 q.2.2) kvs xs ∧ es.toList = xs.map (entryOfKey (tupleKind (mixKind X.prog X.w))) := by
  obtain ⟨hd, z, hs, xs, pr, o', es, ep, ho, hx, hdt, he, _⟩ := I.hok d _ h
  rw [hd] at ho
  cases ho
  refine ⟨hs, hd, hx, es, ep, xs, hdt, ?_, pr, he⟩
  have l1 : es.toList.length = xs.length := by rw [he, List.length_map]
  have l2 : kvs.length = xs.length := Paired.length pr
  rw [Array.length_toList] at l1
  omega
end
/-- the pairs of the locked dict at d, each a new tuple of the key's own tuple and the value -/
def ItiT (d : Addr) (o : Obj) (kvs : List (List Key × V)) (qs : List Addr) : It :=
  ⟨fun i H => H d = some (.frz o (.dT kvs)) ∧ i < kvs.length, fun i H x H' => ∃ T k v q, kvs[i]? = some (k, v) ∧ qs[i]? = some q ∧ x = .ref T ∧ H T = none ∧ H' = upd H T (.tup [.ref q, v]), fun i H => H d = some (.frz o (.dT kvs)) ∧ kvs.length ≤ i⟩
section
variable {P : Program} {w : World} {K : PySem.W.Frag} {d : Addr} {o : Obj} {es : Array DictEntry} {ep : Nat}
theorem turn_itemsT {kvs : List (List Key × V)} {qs : List Addr} {elts : List Expr} {kk : Nat} {tpos : Pos} (it : Addr) (hod : o.data = .dict es ep) (hz : es.size = kvs.length) (hq : ∀ (i : Nat) (en : DictEntry), es[i]? = some en → ∃ q, qs[i]? = some q ∧ en.key = .ref q) :
    Turn P w K (.Tuple elts kk tpos) (ItiT d o kvs qs) [it] it (fun i h => ∃ ok ov, IsItemIter h it d i es.size ep ok ov) where
  mem := by simp
  obj := fun i h st b hb => by
    have e : b = it := by simpa using hb
    subst e
    obtain ⟨ok, ov, e⟩ := st
    exact ⟨_, e, fun v z => nomatch z⟩
  keep := fun i h h' st k => let ⟨ok, ov, e⟩ := st; ⟨ok, ov, k it (by simp) _ e⟩
  item := by
    intro X hP hw hK hc i pins s σ H E I hf st hg
    subst hP hw hK
    obtain ⟨hd, hi⟩ := hg
    obtain ⟨hs, hgd, hx, es', ep', xs, hdt, hsz, pr, he'⟩ := Inv.frzT2 I hd
    obtain ⟨rfl, rfl⟩ := dict_ep hod hdt
    obtain ⟨⟨k, v⟩, hkv⟩ : ∃ p, kvs[i]? = some p := ⟨kvs[i], List.getElem?_eq_getElem hi⟩
    obtain ⟨b, hb, e1, e2, e3⟩ := paired_get pr hkv
    have hent := entry_at he' i
    rw [hb] at hent
    obtain ⟨ok, ov, he⟩ := st
    have hlt : it < s.heap.objs.size := Heap.lt_size he
    have hi' : i < es'.size := by omega
    have hen : es'[i] = entryOfKey (tupleKind (mixKind X.prog X.w)) b := by
      have q : es'[i]? = some es'[i] := Array.getElem?_eq_getElem hi'
      rw [q] at hent
      exact Option.some.inj hent
    have hkey : es'[i].key = .ref b.2.1 := by rw [hen]; rfl
    have hval : es'[i].val = b.2.2 := by rw [hen]; rfl
    obtain ⟨q, hq1, hq2⟩ := hq i _ (Array.getElem?_eq_getElem hi')
    have hqb : q = b.2.1 := by rw [hkey] at hq2; cases hq2; rfl
    subst hqb
    refine wpAny_pyNext_items_item_raw he ⟨o, hgd, hx, hod⟩ hi' fun h' ho hT hz hk => ?_
    rw [hkey, hval] at ho hT
    refine ⟨_, rfl, wpAny_letOwnedTupleGo_items (s := { s with heap := h' }) ho fun h'' he' sb => ?_⟩
    have hT2 : h''.get? s.heap.objs.size = some { cls := .type "tuple", data := .seq #[.ref b.2.1, b.2.2] } := (sb.2 _ (Nat.ne_of_gt hlt)).trans hT
    have new : ObjOk X.prog X.w (upd H s.heap.objs.size (.tup [.ref b.2.1, v])) h'' s.heap.objs.size (.tup [.ref b.2.1, v]) :=
      ⟨by show 2 ≤ sizeLine; decide, [.ref b.2.1, b.2.2], .cons rfl (.cons e3 .nil), ⟨_, hT2, rfl, _, rfl⟩⟩
    have I1 : Inv X pins σ (upd H s.heap.objs.size (.tup [.ref b.2.1, v])) { s with heap := h'' } :=
      I.turnedNew (t' := s.toks) (ch := [it]) (fun b ob hb e => (sb.2 b (by simpa using hb)).trans (hk b ob (by simpa using hb) e)) hf (Nat.le_refl _) new
    refine ⟨.ref s.heap.objs.size, _, I1, rfl, ⟨_, k, v, b.2.1, hkv, hq1, rfl, I.hok.fresh (Nat.le_refl _), rfl⟩, ⟨_, _, he'⟩, fun c hc => ?_⟩
    have e : c = it := by simpa using hc
    rw [e, upd_ne (Nat.ne_of_lt hlt)]
    exact (hf it (by simp)).1
  done := by
    intro X hP hw hK hc i pins s σ H E I hf st hg
    subst hP hw hK
    obtain ⟨hd, hi⟩ := hg
    obtain ⟨f0, f1, f2, f3, f4, f5⟩ := hf it (by simp)
    obtain ⟨hs, hgd, hx, es', ep', xs, hdt, hsz, pr, he'⟩ := Inv.frzT2 I hd
    obtain ⟨rfl, rfl⟩ := dict_ep hod hdt
    obtain ⟨ok, ov, he⟩ := st
    exact wpAny_pyNext_items_end_raw (I.ok.hd hc) he ⟨o, hgd, hx, hod⟩ (by omega) fun h' eb => ⟨rfl, I.turned (t' := s.toks) (fun b o hb e => eb b o hb e) f0 f1 f3 f4 f5⟩
  self := fun A i s Q E st h => let ⟨_, _, e⟩ := st; PySem.W.kcp_self e h
end
theorem keys_of {H : Hp} {kvs : List (List Key × V)} {xs : List (List Key × Addr × Value)} (pr : Paired (fun (p : List Key × V) (q : List Key × Addr × Value) => p.1 = q.1 ∧ H q.2.1 = some (.tup (p.1.map kV)) ∧ RelV p.2 q.2.2) kvs xs) : IsKeys H kvs (xs.map fun x => x.2.1) := by
  unfold IsKeys
  induction pr with
  | nil => exact .nil
  | cons h t ih => exact .cons h.2.1 ih
def iItemsT (td : TE) : TI := fun σ H R => td σ H fun x H1 => ∃ d o, x = .ref d ∧ ((∃ kvs, H1 d = some (.frz o (.dK kvs)) ∧ R (Iti d o kvs) H1) ∨ ∃ kvs, H1 d = some (.frz o (.dT kvs)) ∧ ∀ qs, IsKeys H1 kvs qs → R (ItiT d o kvs qs) H1)
section
variable {X : Cx} {e : Expr} {td : TE} {apos cpos : Pos}
theorem pi_itemsT {elts : List Expr} {kk : Nat} {tpos : Pos} (he : PE X e td) (hbase : attributeBase e "items" X.env (eval e X.env) = eval e X.env := by rfl) (hline : (apos.endLine == cpos.line) = true := by rfl) :
    PI X (.Tuple elts kk tpos) (.Call (.Attribute e "items" apos) [] [] cpos) (iItemsT td) := by
  refine ⟨fun pins s σ H R I h => ?_⟩
  refine wpAny_Call_method (T := "dict") (id := "dict.items") hbase rfl hline F.plainAttrs_dict F.slot_dict_items F.type_dict_items (thn (he.run pins s σ H _ I h) fun u s1 ⟨x, H1, I1, rx, d, o, ex, q⟩ => ?_)
  subst ex
  obtain rfl : u = Value.ref d := rx
  rcases q with ⟨kvs, hd, q⟩ | ⟨kvs, hd, q⟩
  · obtain ⟨hs, hgd, hx, es, ep, vs, hdt, hsz, kv, hm⟩ := I1.frzK hd
    have hl : kvs.length = vs.length := Paired.length kv
    refine ⟨hm.dictOf.typeIs, hm.dictOf.mapOf.noDict, ?_⟩
    have I2 : Inv X pins σ H1 { s1 with heap := s1.heap.push { cls := .type "dict_items", data := .fields #[.ref d] } } := I1.kept (t' := s1.toks) fun b ob q => Heap.get?_push_of_some _ q
    have fin : wpAny (model X.prog X.w) X.A (pyIter (.ref s1.heap.objs.size)) (PIE X pins σ (.Tuple elts kk tpos) R) X.xe { s1 with heap := s1.heap.push { cls := .type "dict_items", data := .fields #[.ref d] } } := by
      refine wpAny_pyIter_items (d := d) (knd := mixKind X.prog X.w) ⟨_, Heap.get?_push_size _ rfl, rfl, rfl⟩ (hm.push _) (pi_one (tk := s1.toks) I2 _ (turn_items _ hdt) ⟨.none, .none, ?_⟩ q)
      rw [hl]
      exact Heap.get?_push_size _ rfl
    show wpAny _ _ (callWith cpos (.builtin "dict.items") [.ref d] [] []) _ X.xe s1
    exact method_meetsIn F.slot_dict_items F.entry_dict_items rfl (PySem.evalArgs_none ⟨rfl, hm.dictOf.typeIs, F.args_dict_items_1 _, _, meets_dict_items (mixKind X.prog X.w) d hs, ⟨vs, hm.dictOf⟩, fin⟩)
  · obtain ⟨hs, hgd, hx, es, ep, xs, hdt, hsz, pr, he'⟩ := Inv.frzT2 I1 hd
    have hm : s1.heap.DictRaw d es ep := ⟨o, hgd, hx, hdt⟩
    have hk : IsKeys H1 kvs (xs.map fun x => x.2.1) := keys_of pr
    refine ⟨hm.typeIs, fun a ea => by cases ea; exact ⟨o, hgd, hx.2.1⟩, ?_⟩
    have I2 : Inv X pins σ H1 { s1 with heap := s1.heap.push { cls := .type "dict_items", data := .fields #[.ref d] } } := I1.kept (t' := s1.toks) fun b ob q => Heap.get?_push_of_some _ q
    have fin : wpAny (model X.prog X.w) X.A (pyIter (.ref s1.heap.objs.size)) (PIE X pins σ (.Tuple elts kk tpos) R) X.xe { s1 with heap := s1.heap.push { cls := .type "dict_items", data := .fields #[.ref d] } } := by
      refine wpAny_pyIter_items_raw (d := d) ⟨_, Heap.get?_push_size _ rfl, rfl, rfl⟩ (hm.at fun o e => Heap.get?_push_of_some _ e) (pi_one (tk := s1.toks) I2 _ (turn_itemsT (qs := xs.map fun x => x.2.1) _ hdt hsz (fun i en hen => ?_)) ⟨.none, .none, ?_⟩ (q _ hk))
      · have hent := entry_at he' i
        rw [hen] at hent
        cases hx : xs[i]? with
        | none => rw [hx] at hent; cases hent
        | some b =>
          rw [hx] at hent
          cases hent
          exact ⟨b.2.1, by rw [List.getElem?_map, hx]; rfl, rfl⟩
      · exact Heap.get?_push_size _ rfl
    show wpAny _ _ (callWith cpos (.builtin "dict.items") [.ref d] [] []) _ X.xe s1
    exact method_meetsIn F.slot_dict_items F.entry_dict_items rfl (PySem.evalArgs_none ⟨rfl, hm.typeIs, F.args_dict_items_1 _, _, meets_dict_items_raw d hs, ⟨⟨es, ep, hm⟩, fin⟩⟩)
end
end DL
set_option Elab.async false
set_option linter.all false
set_option maxRecDepth 100000
set_option maxHeartbeats 2000000
namespace DL
open PySem PySem.Spec PyProof.Rows L2
mutual
/-- no dict within -/
def noDct : D → Bool
  | .list ds => noDctA ds
  | .tuple ds => noDctA ds
  | .dict _ => false
  | _ => true
def noDctA : List D → Bool
  | [] => true
  | d :: ds => noDct d && noDctA ds
end
def noDctE (ρ : En) : Bool := ρ.all fun x => match x with
  | some (_, d) => noDct d
  | none => true
def isDO : HO → Bool
  | .dK _ => true
  | .dT _ => true
  | .frz _ (.dK _) => true
  | .frz _ (.dT _) => true
  | _ => false
theorem isDO_of {o : HO} {ps : List (D × V)} (h : dOf o = some ps) : isDO o = true := by cases o <;> first | rfl | cases h
theorem isDO_frz {o : HO} {od : Obj} {ps : List (D × V)} (h : dOf o = some ps) : isDO (.frz od o) = true := by cases o <;> first | rfl | cases h
section
variable {S S' : Addr → Prop} {H H' : Hp} {d : Addr}
mutual
theorem Rep.nd (hd : ∀ o, H d = some o → isDO o = true) (h : ∀ a o, S a → H a = some o → a ≠ d → S' a ∧ H' a = some o) : ∀ (x : D) (v : V), noDct x = true → Rep S H v x → Rep S' H' v x
  | .none, _, _, r => by cases r; exact .non
  | .bool b, _, _, r => by cases r; exact .bl b
  | .int i, _, _, r => by cases r; exact .int i
  | .str x, _, _, r => by cases r; exact .str x
  | .list ds, _, n, r => by
    cases r with
    | @lst a _ _ hs hr ha =>
      obtain ⟨o, ho⟩ := Rd.dom hr
      have ne : a ≠ d := fun z => by
        subst z
        rcases hr with hr | ⟨o', hr⟩
        · exact absurd (hd _ hr) (by simp [isDO])
        · exact absurd (hd _ hr) (by simp [isDO])
      exact .lst (h _ o hs ho ne).1 (Rd.up (fun o q => (h _ o hs q ne).2) hr) (RepA.nd hd h ds _ (by simpa [noDct] using n) ha)
  | .tuple ds, _, n, r => by
    cases r with
    | @tup a _ _ hs hr ha =>
      have ne : a ≠ d := fun z => by
        subst z
        exact absurd (hd _ hr) (by simp [isDO])
      exact .tup (h _ _ hs hr ne).1 (h _ _ hs hr ne).2 (RepA.nd hd h ds _ (by simpa [noDct] using n) ha)
  | .dict es, _, n, r => by simp [noDct] at n
theorem RepA.nd (hd : ∀ o, H d = some o → isDO o = true) (h : ∀ a o, S a → H a = some o → a ≠ d → S' a ∧ H' a = some o) : ∀ (ds : List D) (vs : List V), noDctA ds = true → RepA S H vs ds → RepA S' H' vs ds
  | [], _, _, r => by cases r; exact .nil
  | x :: ds, _, n, r => by
    simp only [noDctA, Bool.and_eq_true] at n
    cases r with
    | cons r1 r2 => exact .cons (Rep.nd hd h x _ n.1 r1) (RepA.nd hd h ds _ n.2 r2)
end
theorem RepK.nd (hd : ∀ o, H d = some o → isDO o = true) (h : ∀ a o, S a → H a = some o → a ≠ d → S' a ∧ H' a = some o) : ∀ {ps : List (D × V)} {es : List (D × D)}, noDctA (es.map (·.2)) = true → RepK S H ps es → RepK S' H' ps es
  | _, [], _, r => by cases r; exact .nil
  | _, (k, x) :: es, n, r => by
    simp only [List.map_cons, noDctA, Bool.and_eq_true] at n
    cases r with
    | cons r1 r2 => exact .cons (Rep.nd hd h x _ n.1 r1) (RepK.nd hd h n.2 r2)
theorem RepK.get : ∀ {ps : List (D × V)} {es : List (D × D)} {i : Nat} {k : D} {v : V}, RepK S H ps es → ps[i]? = some (k, v) → ∃ d, es[i]? = some (k, d) ∧ Rep S H v d
  | [], _, _, _, _, r, e => by simp at e
  | (k', w) :: ps, _, i, k, v, r, e => by
    cases r with
    | cons r1 r2 =>
      cases i with
      | zero => simp at e; obtain ⟨rfl, rfl⟩ := e; exact ⟨_, rfl, r1⟩
      | succ i =>
        obtain ⟨d, h1, h2⟩ := RepK.get (i := i) r2 (by simpa using e)
        exact ⟨d, by simpa using h1, h2⟩
end
theorem noDctE_get {ρ : En} {i : Nat} {fl : Fl} {x : D} (h : noDctE ρ = true) (e : ρ[i]? = some (some (fl, x))) : noDct x = true :=
  List.all_eq_true.mp h _ (List.mem_of_getElem? e)
section
variable {P : Pk} {T : Addr → Prop} {σ : SS} {ρ : En} {H : Hp}
/-- the dict at d is locked, or let go of again -/
theorem Sim.lk {d : Addr} {o1 o2 : HO} {H0' : Hp} (S : Sim P T σ ρ H) (hd : H d = some o1) (k1 : isDO o1 = true) (k2 : isDO o2 = true) (no : ¬ Own σ ρ d) (hn : ∀ b, H0' b = none ↔ P.H0 b = none) (hk : ∀ b o, H0' b = some o → ¬ P.B b → upd H d o2 b = some o)
    (nd : noDctE ρ = true) : Sim ⟨H0', P.S, P.B, P.σ0⟩ T σ ρ (upd H d o2) := by
  have av : ∀ b, Av P T σ ρ b → Av ⟨H0', P.S, P.B, P.σ0⟩ T σ ρ b := fun b ⟨h1, h2, h3⟩ => ⟨h1.imp id (hn b).mpr, h2, h3⟩
  have hdd : ∀ o, H d = some o → isDO o = true := fun o e => by rw [hd] at e; cases e; exact k1
  have hh : ∀ a o, Av P T σ ρ a → H a = some o → a ≠ d → Av ⟨H0', P.S, P.B, P.σ0⟩ T σ ρ a ∧ upd H d o2 a = some o := fun a o ha e ne => ⟨av a ha, by rw [upd_ne ne]; exact e⟩
  have dm : ∀ b o, H b = some o → ∃ o', upd H d o2 b = some o' := fun b o e => by
    by_cases hb : b = d
    · subst hb; exact ⟨o2, upd_same⟩
    · exact ⟨o, by rw [upd_ne hb]; exact e⟩
  have h0 : ∀ {b : Addr} {o : HO}, H0' b = some o → ∃ o', P.H0 b = some o' := fun {b o} e => by
    cases z : P.H0 b with
    | none => rw [(hn b).mpr z] at e; cases e
    | some o' => exact ⟨o', rfl⟩
  refine ⟨S.len, fun i x e => ?_, fun i fl x e n => ?_, S.dj, fun i x a h1 h2 => (hn a).mpr (S.new i x a h1 h2), S.bx, fun b q => ⟨?_, (S.tn b q).2⟩, hk, fun b o e => ?_, fun b h => ⟨(S.sB b h).1, ?_⟩, fun b xs e => ?_⟩
  · obtain ⟨v, q1, q2⟩ := S.sh i x e
    exact ⟨v, q1, Rep.nd hdd hh x v (noDctE_get nd e) q2⟩
  · obtain ⟨a, o, q1, q2, q3⟩ := S.ow i fl x e n
    have ne : a ≠ d := fun z => no ⟨i, fl, x, e, n, by rw [← z]; exact q1⟩
    have nx := noDctE_get nd e
    cases q3 with
    | lst r => exact ⟨a, _, q1, by rw [upd_ne ne]; exact q2, .lst (RepA.nd hdd hh _ _ (by simpa [noDct] using nx) r)⟩
    | dct e1 r => simp [noDct] at nx
  · obtain ⟨o, e⟩ := (S.tn b q).1
    exact dm b o e
  · obtain ⟨o', e'⟩ := h0 e
    obtain ⟨o'', e''⟩ := S.dom b o' e'
    exact dm b o'' e''
  · obtain ⟨o, e⟩ := (S.sB b h).2
    cases z : H0' b with
    | none => rw [(hn b).mp z] at e; cases e
    | some o' => exact ⟨o', z⟩
  · by_cases hb : b = d
    · subst hb
      rw [upd_same] at e
      cases e
      exact absurd k2 (by simp [isDO])
    · rw [upd_ne hb] at e
      obtain ⟨t1, t2⟩ := S.tp b xs e
      exact ⟨t1.imp id (hn b).mpr, t2⟩
/-- the items of a dict: pairs -/
def itD (es : List (D × D)) : List D := (if hdOf es then es.tail else es).map fun p => .tuple [p.1, p.2]
theorem walk_items {d : Addr} {od : Obj} {kvs : List (Key × V)} {es : List (D × D)} (hd : H d = some (.frz od (.dK kvs))) (ho : ¬ Own σ ρ d) (rk : RepK (Av P T σ ρ) H (kvs.map fun p => (kD p.1, p.2)) es) : Walk P T σ ρ H (Iti d od kvs) (itD es) := by
  have eh : itD es = es.map fun p => .tuple [p.1, p.2] := by
    unfold itD
    rcases es_head es with ⟨hh, z, es', rfl⟩ | ⟨hh, _⟩
    · obtain ⟨_, e, _⟩ := dOf_head (o := .dK kvs) rfl rk
      cases e
    · rw [hh]; rfl
  have hl : kvs.length = (itD es).length := by
    rw [eh, List.length_map, ← repK_len rk, List.length_map]
  refine ⟨fun i H' k hi => ⟨k d _ hd ho, by omega⟩, fun i H' k hi x H2 y => ?_, fun H' k => ⟨k d _ hd ho, by omega⟩⟩
  obtain ⟨t, kk, v, e1, e2, hn, e3⟩ := y
  subst e2
  obtain ⟨dv, e4, r1⟩ := rk.get (i := i) (k := kD kk) (v := v) (by rw [List.getElem?_map, e1]; rfl)
  obtain ⟨u1, u2⟩ := rep_pair (P := P) (T := T) (dx := kD kk) hn e3 k (by cases kk <;> constructor) r1
  exact ⟨u1, _, by rw [eh, List.getElem?_map, e4]; rfl, u2⟩
theorem repA_keys {S : Addr → Prop} : ∀ ks : List Key, RepA S H (ks.map kV) (ks.map kD)
  | [] => .nil
  | k :: ks => .cons (by cases k <;> constructor) (repA_keys ks)
theorem walk_itemsT {d : Addr} {od : Obj} {kvs : List (List Key × V)} {qs : List Addr} {es : List (D × D)} (S : Sim P T σ ρ H) (hd : H d = some (.frz od (.dT kvs))) (ho : ¬ Own σ ρ d) (hq : IsKeys H kvs qs) (rk : RepK (Av P T σ ρ) H ((.none, .non) :: kvs.map fun p => (.tuple (p.1.map kD), p.2)) es) : Walk P T σ ρ H (ItiT d od kvs qs) (itD es) := by
  obtain ⟨es', rfl, rk2⟩ : ∃ es', es = (.none, .none) :: es' ∧ RepK (Av P T σ ρ) H (kvs.map fun p => (.tuple (p.1.map kD), p.2)) es' := by
    cases rk with
    | cons r1 r2 => cases r1; exact ⟨_, rfl, r2⟩
  have eh : itD ((.none, .none) :: es') = es'.map fun p => .tuple [p.1, p.2] := rfl
  have hl : kvs.length = (itD ((.none, .none) :: es')).length := by
    have := repK_len rk2
    rw [List.length_map] at this
    rw [eh, List.length_map, this]
  refine ⟨fun i H' k hi => ⟨k d _ hd ho, by omega⟩, fun i H' k hi x H2 y => ?_, fun H' k => ⟨k d _ hd ho, by omega⟩⟩
  obtain ⟨t, kk, v, q, e1, eq, e2, hn, e3⟩ := y
  subst e2
  obtain ⟨dv, e4, r1⟩ := rk2.get (i := i) (k := .tuple (kk.map kD)) (v := v) (by rw [List.getElem?_map, e1]; rfl)
  obtain ⟨q', eq', hk⟩ := paired_get hq e1
  rw [eq] at eq'; cases eq'
  obtain ⟨t1, t2⟩ := S.tp q _ hk
  obtain ⟨u1, u2⟩ := rep_pair (P := P) (T := T) (dx := .tuple (kk.map kD)) hn e3 k (.tup ⟨t1, tup_own S hk, t2⟩ hk (repA_keys kk)) r1
  exact ⟨u1, _, by rw [eh, List.getElem?_map, e4]; rfl, u2⟩
end
/-- [.. for k, v in d.items()], the dict in the slot i -/
def flcI (i : Nat) (vs : List Nat) (b : Fg) (t : Ft) (fe : Fe) : Fe := fun ρ => match ρ[i]? with
  | some (some (fl, .dict es)) => if fl = .bx ∨ isX es = true then none else if (noDctE (ρ.set i none) && noDctA (es.map (·.2))) = true then (flc vs (fun ρ1 => some (itD es, ρ1)) b t fe (ρ.set i none)).bind fun x => match x.1 with
      | .fr (.list ds) => if (noDctA ds && noDctE x.2) = true then some (.fr (.list ds), x.2.set i (some (.sh, .dict es))) else none
      | _ => none
    else none
  | _ => none
section
variable {X : Cx} {elt : Expr} {ifs : List Expr} {scope : Scope} {own : List (Str × Nat)} {is : List Nat} {pos : Pos} {b : Fg} {t : Ft} {fe : Fe} {elts : List Expr} {kk i : Nat} {tpos p apos cpos : Pos} {x : Str}
theorem lcI_in (hN : X.N[i]? = some x) (hv : Vis X.env.scope x) (hdb : (x == ("__debug__" : Str)) = false) (hcd : (x == ("__classdict__" : Str)) = false)
    (hbase : attributeBase (.Name x p) "items" X.env (eval (.Name x p) X.env) = eval (.Name x p) X.env) (hline : (apos.endLine == cpos.line) = true)
    (hg : Blk X scope fun Y => DG Y (Expr.Tuple elts kk tpos) is b) (ht : Blk X scope fun Y => DTs Y ifs t) (he : Blk X scope fun Y => DE Y elt fe) (hsub : ∀ i ∈ is, i ∈ own.map (·.2))
    {P T σ ρ H rv ρ'} {d : Addr} {od : Obj} {u : HO} {ps : List (D × V)} {es : List (D × D)} (S : Sim P T σ ρ H) (es1 : σ[i]? = some (some (V.ref d))) (hd : H d = some (.frz od u)) (hu : dOf u = some ps) (no : ¬ Own σ ρ d) (rk : RepK (Av P T σ ρ) H ps es)
    (hf : flc (own.map (·.2)) (fun ρ1 => some (itD es, ρ1)) b t fe ρ = some (rv, ρ')) {Q : VK} (q : ∀ v H' T', Aft P T σ ρ H rv ρ' v H' T' → Q v H') :
    tLc (WI X (Expr.Tuple elts kk tpos) (Expr.Call (.Attribute (.Name x p) "items" apos) [] [] cpos)) (RG X scope (Expr.Tuple elts kk tpos)) (RT X scope ifs) (RE X scope elt) (own.map (·.2)) σ H Q := by
  refine lc_D hg ht he hsub S (fun items ρ1 e1 R k => ?_) hf q
  cases e1
  refine PI.wi (pi_itemsT (pe_var hN hv hdb hcd) hbase hline) ⟨_, es1, d, od, rfl, ?_⟩
  cases u with
  | dK kvs =>
    cases hu
    exact .inl ⟨kvs, hd, k _ H T S .refl .refl .refl (walk_items hd no rk)⟩
  | dT kvs =>
    cases hu
    exact .inr ⟨kvs, hd, fun qs hq => k _ H T S .refl .refl .refl (walk_itemsT S hd no hq rk)⟩
  | _ => cases hu
/-- the lock, or the lock that is there -/
theorem lcI_D (hN : X.N[i]? = some x) (hv : Vis X.env.scope x) (hdb : (x == ("__debug__" : Str)) = false) (hcd : (x == ("__classdict__" : Str)) = false)
    (hbase : attributeBase (.Name x p) "items" X.env (eval (.Name x p) X.env) = eval (.Name x p) X.env) (hline : (apos.endLine == cpos.line) = true)
    (hg : Blk X scope fun Y => DG Y (Expr.Tuple elts kk tpos) is b) (ht : Blk X scope fun Y => DTs Y ifs t) (he : Blk X scope fun Y => DE Y elt fe) (hsub : ∀ i ∈ is, i ∈ own.map (·.2))
    {P T σ ρ H rv ρ'} (S : Sim P T σ ρ H) (hf : flcI i (own.map (·.2)) b t fe ρ = some (rv, ρ')) {Q : VK} (q : ∀ v H' T', Aft P T σ ρ H rv ρ' v H' T' → Q v H') :
    (∃ d u, H d = some u ∧ Mut (some u) ∧ ∀ od, tLc (WI X (Expr.Tuple elts kk tpos) (Expr.Call (.Attribute (.Name x p) "items" apos) [] [] cpos)) (RG X scope (Expr.Tuple elts kk tpos)) (RT X scope ifs) (RE X scope elt) (own.map (·.2)) σ (upd H d (.frz od u)) fun v H' => H' d = some (.frz od u) ∧ Q v (upd H' d u)) ∨
    tLc (WI X (Expr.Tuple elts kk tpos) (Expr.Call (.Attribute (.Name x p) "items" apos) [] [] cpos)) (RG X scope (Expr.Tuple elts kk tpos)) (RT X scope ifs) (RE X scope elt) (own.map (·.2)) σ H Q := by
  unfold flcI at hf
  cases e0 : ρ[i]? with
  | none => rw [e0] at hf; cases hf
  | some z =>
    cases z with
    | none => rw [e0] at hf; cases hf
    | some y =>
      obtain ⟨fl, dd⟩ := y
      cases dd with
      | dict es =>
        simp only [e0] at hf
        by_cases hbx : fl = .bx ∨ isX es = true
        · rw [if_pos hbx] at hf; cases hf
        · rw [if_neg hbx] at hf
          have nx : isX es = false := by simpa using fun z => hbx (.inr z)
          have hbx : ¬ fl = .bx := fun z => hbx (.inl z)
          by_cases hnd : (noDctE (ρ.set i none) && noDctA (es.map (·.2))) = true
          · rw [if_pos hnd] at hf
            simp only [Bool.and_eq_true] at hnd
            simp only [Option.bind_eq_some_iff] at hf
            obtain ⟨⟨r1, ρ1⟩, e1, e2⟩ := hf
            cases r1 with
            | sh _ => cases e2
            | al _ => cases e2
            | fr dl =>
              cases dl with
              | list ds =>
                simp only at e2
                by_cases hnd2 : (noDctA ds && noDctE ρ1) = true
                · rw [if_pos hnd2] at e2
                  cases e2
                  simp only [Bool.and_eq_true] at hnd2
                  -- the slot
                  have hil : i < ρ.length := (List.getElem?_eq_some_iff.mp e0).1
                  obtain ⟨d, u, ps, es1, hrd, hu, rk, no⟩ : ∃ d u ps, σ[i]? = some (some (V.ref d)) ∧ RdK H d u ∧ dOf u = some ps ∧ RepK (Av P T σ ρ) H ps es ∧ ¬ Own σ (ρ.set i none) d := by
                    have back : ∀ {j : Nat} {f : Fl} {z : D}, (ρ.set i none)[j]? = some (some (f, z)) → j ≠ i ∧ ρ[j]? = some (some (f, z)) := fun {j f z} h => by
                      rcases get_set h with ⟨_, q⟩ | q
                      · cases q
                      · exact q
                    by_cases hfl : fl = .sh
                    · subst hfl
                      obtain ⟨v, q1, q2⟩ := S.sh i _ e0
                      cases q2 with
                      | exc => cases nx
                      | set => cases nx
                      | @dct a o ps _ k1 k2 k3 k4 =>
                        exact ⟨a, o, ps, q1, k2, k3, k4, fun ⟨j, f, z, h1, h2, h3⟩ => k1.2.1 ⟨j, f, z, (back h1).2, h2, h3⟩⟩
                    · obtain ⟨a, o, q1, q2, q3⟩ := S.ow i fl _ e0 hfl
                      cases q3 with
                      | @dct _ ps _ k1 k2 =>
                        exact ⟨a, o, ps, q1, .inl q2, k1, k2, fun ⟨j, f, z, h1, h2, h3⟩ => (back h1).1 (S.dj j i f fl z _ a (back h1).2 h2 e0 hfl h3 q1)⟩
                  have hσ : σ.set i (some (V.ref d)) = σ := by
                    refine List.ext_getElem? fun j => ?_
                    by_cases hj : i = j
                    · subst hj
                      rw [List.getElem?_set_self (by rw [S.len]; exact hil)]
                      exact es1.symm
                    · rw [List.getElem?_set_ne hj]
                  obtain ⟨S2, ow2⟩ := S.drop (i := i) (x := some (V.ref d))
                  rw [hσ] at S2 ow2
                  have st2 : Stp σ ρ H σ (ρ.set i none) H := ⟨fun _ _ h _ => h, fun b q => .inl (ow2 b q), fun _ o h => ⟨o, h⟩⟩
                  have rk2 : RepK (Av P T σ (ρ.set i none)) H ps es := RepK.up (av_step st2 .refl) _ _ rk
                  -- the end
                  have fin : ∀ {T' : Addr → Prop} {H' : Hp} {v : V} , Sim P T' σ ρ1 H' → Stp σ (ρ.set i none) H σ ρ1 H' → Kp (ρ.set i none) ρ1 → Tx T H v T' (.fr (.list ds)) → Val P T' σ ρ1 H' v (.fr (.list ds)) → ¬ Own σ ρ1 d → RdK H' d u → Aft P T σ ρ H (.fr (.list ds)) (ρ1.set i (some (.sh, .dict es))) v H' T' := fun {T' H' v} S3 st3 kp3 tx val no3 hrd3 => by
                    have hdd : ∀ o, H d = some o → ∃ o', H d = some o' := fun o e => ⟨o, e⟩
                    obtain ⟨o0, ho0⟩ := Rd.dom hrd.rd
                    have hTd : ¬ T' d := fun z => by
                      rcases tx.tg.2 d z with z | z
                      · have := S2.tn d z
                        by_cases hfl : fl = .sh
                        · subst hfl
                          obtain ⟨v', q1, q2⟩ := S.sh i _ e0
                          rw [es1] at q1; cases q1
                          cases q2 with
                          | exc => cases nx
                          | set => cases nx
                          | dct k1 => exact k1.2.2 z
                        · exact (S.tn d z).2 ⟨i, fl, _, e0, hfl, es1⟩
                      · rw [ho0] at z; cases z
                    have hPd : P.S d ∨ P.H0 d = none := by
                      by_cases hfl : fl = .sh
                      · subst hfl
                        obtain ⟨v', q1, q2⟩ := S.sh i _ e0
                        rw [es1] at q1; cases q1
                        cases q2 with
                        | exc => cases nx
                        | set => cases nx
                        | dct k1 => exact k1.1
                      · cases fl with
                        | sh => exact absurd rfl hfl
                        | bx => exact absurd rfl hbx
                        | ow => exact .inr (S.new i _ d e0 es1)
                    have rk3 : RepK (Av P T' σ ρ1) H' ps es := RepK.up (av_step st3 tx.tg) _ _ rk2
                    obtain ⟨S4, st4⟩ := S3.setSh (i := i) (v := V.ref d) (.dct ⟨hPd, no3, hTd⟩ hrd3 hu rk3)
                    rw [hσ] at S4 st4
                    refine ⟨S4, (st2.trans st3).trans st4, fun j y ey => ?_, tx, ?_⟩
                    · by_cases hj : j = i
                      · subst hj
                        obtain ⟨y', e'⟩ : ∃ y', ρ1.length = y' := ⟨_, rfl⟩
                        have : j < ρ1.length := by rw [← S3.len, S.len]; exact hil
                        exact ⟨_, List.getElem?_set_self this⟩
                      · obtain ⟨y', e'⟩ := kp3 j y (by rw [List.getElem?_set_ne (Ne.symm hj)]; exact ey)
                        exact ⟨y', by rw [List.getElem?_set_ne (Ne.symm hj)]; exact e'⟩
                    · exact val.step S3 st4 kp_set .refl
                  rcases hrd with hrd | ⟨od, kvs, ek, hrd⟩
                  · refine .inl ⟨d, u, hrd, ?_, fun od => ?_⟩
                    · cases u <;> first | exact trivial | cases hu
                    · have k1 := isDO_of hu
                      have k2 := isDO_frz (od := od) hu
                      have S3 : Sim ⟨fun b => if b = d then (P.H0 b).map (fun _ => .frz od u) else P.H0 b, P.S, P.B, P.σ0⟩ T σ (ρ.set i none) (upd H d (.frz od u)) := by
                        refine S2.lk hrd k1 k2 no (fun b => ?_) (fun b o e nb => ?_) hnd.1
                        · by_cases hb : b = d
                          · simp only [if_pos hb, Option.map_eq_none_iff]
                          · simp only [if_neg hb]
                        · by_cases hb : b = d
                          · subst hb
                            simp only [if_true, Option.map_eq_some_iff] at e
                            obtain ⟨_, _, e⟩ := e
                            rw [upd_same, e]
                          · simp only [if_neg hb] at e
                            rw [upd_ne hb]
                            exact S2.keep b o e nb
                      have hdd : ∀ o, H d = some o → isDO o = true := fun o e => by rw [hrd] at e; cases e; exact k1
                      have rk3 : RepK (Av ⟨fun b => if b = d then (P.H0 b).map (fun _ => .frz od u) else P.H0 b, P.S, P.B, P.σ0⟩ T σ (ρ.set i none)) (upd H d (.frz od u)) ps es :=
                        RepK.nd hdd (fun a o ⟨h1, h2, h3⟩ e ne => ⟨⟨h1.imp id fun z => by simp only [if_neg ne]; exact z, h2, h3⟩, by rw [upd_ne ne]; exact e⟩) hnd.2 rk2
                      refine lcI_in hN hv hdb hcd hbase hline hg ht he hsub S3 es1 upd_same hu no rk3 e1 fun v H' T' A => ?_
                      have hd' : H' d = some (.frz od u) := A.stp.fr d _ upd_same no
                      refine ⟨hd', ?_⟩
                      have no3 : ¬ Own σ ρ1 d := fun z => (A.stp.os d z).elim no fun z => by rw [upd_same] at z; cases z
                      have S5 := A.sim.lk (H0' := P.H0) (o2 := u) hd' k2 k1 no3 (fun b => by
                        by_cases hb : b = d
                        · simp only [if_pos hb, Option.map_eq_none_iff]
                        · simp only [if_neg hb]) (fun b o e nb => by
                        by_cases hb : b = d
                        · subst hb
                          rw [upd_same]
                          have := S2.keep b o e nb
                          rw [hrd] at this
                          exact this
                        · rw [upd_ne hb]
                          exact A.sim.keep b o (by simp only [if_neg hb]; exact e) nb) hnd2.2
                      have st5 : Stp σ (ρ.set i none) H σ ρ1 (upd H' d u) := by
                        refine ⟨fun b o e nb => ?_, fun b z => ?_, fun b o e => ?_⟩
                        · by_cases hb : b = d
                          · subst hb
                            rw [upd_same, ← hrd]
                            exact e
                          · rw [upd_ne hb]
                            exact A.stp.fr b o (by rw [upd_ne hb]; exact e) nb
                        · rcases A.stp.os b z with z | z
                          · exact .inl z
                          · refine .inr ?_
                            by_cases hb : b = d
                            · subst hb
                              rw [upd_same] at z; cases z
                            · rwa [upd_ne hb] at z
                        · by_cases hb : b = d
                          · subst hb; exact ⟨_, upd_same⟩
                          · obtain ⟨o', e'⟩ := A.stp.dm b o (by rw [upd_ne hb]; exact e)
                            exact ⟨o', by rw [upd_ne hb]; exact e'⟩
                      obtain ⟨a, ea, hna, hT'⟩ := A.tx
                      have hne : a ≠ d := fun z => by rw [z, upd_same] at hna; cases hna
                      have hdd' : ∀ o, H' d = some o → isDO o = true := fun o e => by rw [hd'] at e; cases e; exact k2
                      refine q v _ T' (fin S5 st5 A.kp ⟨a, ea, by rwa [upd_ne hne] at hna, hT'⟩ ?_ no3 (.inl upd_same))
                      obtain ⟨a', o, y1, y2, y3, y4, y5⟩ := A.val
                      rw [ea] at y1; cases y1
                      rw [upd_ne hne] at hna
                      refine ⟨a, o, ea, y2, by rw [upd_ne hne]; exact y3, h0_none S2 hna, ?_⟩
                      cases y5 with
                      | lst r => exact .lst (RepA.nd hdd' (fun c o ⟨h1, h2, h3⟩ e ne => ⟨⟨h1.imp id fun z => by simp only [if_neg ne] at z; exact z, h2, h3⟩, by rw [upd_ne ne]; exact e⟩) _ _ hnd2.1 r)
                  · right
                    refine lcI_in hN hv hdb hcd hbase hline hg ht he hsub S2 es1 hrd hu no rk2 e1 fun v H' T' A => ?_
                    have no3 : ¬ Own σ ρ1 d := fun z => (A.stp.os d z).elim no fun z => by rw [hrd] at z; cases z
                    exact q v H' T' (fin A.sim A.stp A.kp A.tx A.val no3 (.inr ⟨od, kvs, ek, A.stp.fr d _ hrd no⟩))
                · rw [if_neg hnd2] at e2; cases e2
              | _ => cases e2
          · rw [if_neg hnd] at hf; cases hf
      | _ => simp only [e0] at hf; cases hf
end
end DL
namespace DL
open PySem PySem.Spec PyProof.Rows L2
section
variable {X : Cx} {elt : Expr} {ifs : List Expr} {scope : Scope} {own : List (Str × Nat)} {is : List Nat} {pos : Pos} {b : Fg} {t : Ft} {fe : Fe} {elts : List Expr} {kk i : Nat} {tpos p apos cpos : Pos} {x : Str}
/-- name = [..] on one line -/
theorem ds_setLcI {j : Nat} {y : Str} {py spos : Pos} (hc : X.calm = true) (hNd : X.N.Nodup) (ok : BlkOk X.N X.env.scope scope own) (hg : Blk X scope fun Y => DG Y (.Tuple elts kk tpos) is b) (ht : Blk X scope fun Y => DTs Y ifs t) (he : Blk X scope fun Y => DE Y elt fe)
    (hsw : swapsWith (.ListComp elt [⟨.Tuple elts kk tpos, .Call (.Attribute (.Name x p) "items" apos) [] [] cpos, ifs, 0⟩] scope pos) (some (.Name y py)) spos.line X.env = pure true)
    (hN : X.N[i]? = some x := by rfl) (hv : Vis X.env.scope x := by first | exact Or.inl rfl | exact Or.inr (Or.inl rfl) | exact Or.inr (Or.inr rfl)) (hdb : (x == ("__debug__" : Str)) = false := by decide) (hcd : (x == ("__classdict__" : Str)) = false := by decide)
    (hbase : attributeBase (.Name x p) "items" X.env (eval (.Name x p) X.env) = eval (.Name x p) X.env := by rfl) (hline : (apos.endLine == cpos.line) = true := by rfl) (hsub : ∀ i ∈ is, i ∈ own.map (·.2) := by decide)
    (hy : X.N[j]? = some y := by rfl) (hyl : X.env.scope.names.lookup y = some .local := by rfl)
    (hs : ∀ y, foldedSetIterable (.Call (.Attribute (.Name x p) "items" apos) [] [] cpos) X.env y = pure y := by intro _; rfl) :
    DS X (.Assign [.Name y py] (.ListComp elt [⟨.Tuple elts kk tpos, .Call (.Attribute (.Name x p) "items" apos) [] [] cpos, ifs, 0⟩] scope pos) spos) (fset [j] (f1 (flcI i (own.map (·.2)) b t fe))) := fun P T σ ρ H o S hf Ds q => by
  simp only [fset, Option.bind_eq_some_iff, Option.map_eq_some_iff] at hf
  obtain ⟨⟨rs, ρ1⟩, e1, ds, e2, ρ2, e3, ρ3, e4, e5⟩ := hf
  cases e5
  simp only [f1, Option.map_eq_some_iff] at e1
  obtain ⟨⟨r, ρ1'⟩, e6, e7⟩ := e1
  cases e7
  have k := lcI_D hN hv hdb hcd hbase hline hg ht he hsub S e6 (Q := fun v H1 => Ds.nx (σ.set j (some v)) H1) fun v H1 T1 A => by
    have AA : AftA P T σ ρ H [r] ρ1' [v] H1 T1 := ⟨A.sim, A.stp, A.kp, A.tx.tg, ⟨fun d e => by
      subst e
      obtain ⟨a, z1, z2, _⟩ := A.tx
      exact ⟨a, z1, z2, fun i d' z => by simp at z⟩, trivial⟩, ⟨A.val, trivial⟩⟩
    obtain ⟨S3, st3⟩ := store_fin S AA e2 e3 e4
    exact q (σ.set j (some v)) H1 S3 st3
  rcases k with ⟨d, u, h1, h2, h3⟩ | h
  · exact PS.ws (ps_lock (ps_setLc (own := own) hc hNd hy hyl hsw piW ok pgB ptB peB hs)) ⟨d, u, h1, h2, h3⟩
  · exact PS.ws (ps_setLc (own := own) hc hNd hy hyl hsw piW ok pgB ptB peB hs) h
end
end DL
set_option Elab.async false
set_option linter.all false
set_option maxRecDepth 100000
set_option maxHeartbeats 2000000
namespace DL
open PySem PySem.Spec PyProof.Rows L2
section
end
end DL
namespace DL
open PySem PySem.Spec PyProof.Rows L2
end DL
namespace DL
open PySem PySem.Spec PyProof.Rows L2
section
end
end DL
set_option Elab.async false
set_option linter.all false
set_option maxRecDepth 100000
set_option maxHeartbeats 1000000
namespace PySem
open Sem (wp)
open PyProof.Rows
section
end
section
end
end PySem
namespace DL
open PySem PySem.Spec PyProof.Rows L2
end DL
namespace DL
open PySem PySem.Spec PyProof.Rows L2
def rowsOf : List D → Option (List (List D))
  | [] => some []
  | .list es :: ds => (rowsOf ds).map (es :: ·)
  | _ => none
end DL
set_option Elab.async false
set_option linter.all false
set_option maxRecDepth 100000
set_option maxHeartbeats 1000000
namespace DL
open PySem PySem.Spec PyProof.Rows L2
/-- {k: v} with an int for k -/
def fdct1 (fk fv : Fe) : Fe := fun ρ => (fk ρ).bind fun x => match x.1 with
  | .sh (.int i) => (fv x.2).bind fun y => match y.1 with
    | .sh d => some (.fr (.dict [(.int i, d)]), y.2)
    | _ => none
  | _ => none
theorem de_dct1 {X : Cx} {k v : Expr} {fk fv : Fe} {pos : Pos} (hk : DE X k fk) (hv : DE X v fv) : DE X (.Dict [some k] [v] pos) (fdct1 fk fv) := by
  intro P T σ ρ H r ρ' S hf Q q
  simp only [fdct1, Option.bind_eq_some_iff] at hf
  obtain ⟨⟨rk, ρ1⟩, e1, e2⟩ := hf
  match rk, e2 with
  | .sh (.int i), e2 =>
    simp only [Option.bind_eq_some_iff] at e2
    obtain ⟨⟨rv, ρ2⟩, e3, e4⟩ := e2
    match rv, e4 with
    | .sh d, e4 =>
      cases e4
      refine PE.we (pe_disp (pps_cons peW peW pps_nil) rfl rfl (by simp) (by simp)) fun p hp => ?_
      obtain ⟨S1, st1⟩ := S.alloc (o := .dK []) hp (by intro _ h; cases h)
      have no : ¬ Own σ ρ p := fun z => by
        obtain ⟨o, e⟩ := own_dom S z
        rw [hp] at e; cases e
      refine hk P _ σ ρ _ _ ρ1 S1 e1 _ fun x H1 T1 A1 => ?_
      refine hv P T1 σ ρ1 H1 _ ρ2 A1.sim e3 _ fun y H2 T2 A2 => ?_
      obtain ⟨S2, st2, kp2, tx2, vl2⟩ := A1
      have et : T1 = fun b => T b ∨ b = p := tx2
      subst et
      obtain ⟨S3, st3, kp3, tx3, vl3⟩ := A2
      have et : T2 = fun b => T b ∨ b = p := tx3
      subst et
      have ex : x = .int i := by
        cases (show Rep _ _ _ _ from vl2)
        rfl
      subst ex
      have ry : Rep (Av P (fun b => T b ∨ b = p) σ ρ2) H2 y d := vl3
      have no1 : ¬ Own σ ρ1 p := fun z => by
        rcases st2.os p z with z | z
        · exact no z
        · rw [upd_same] at z; cases z
      have hp2 : H2 p = some (.dK []) := st3.fr p _ (st2.fr p _ upd_same no) no1
      have h0 := h0_none S hp
      exact ⟨hp2, [(.inl i, y)], rfl, by simp, q _ _ _ ⟨S3.wtmp (.inr rfl) h0, ((st1.trans st2).trans st3).wtmp hp, kp2.trans kp3, ⟨p, rfl, hp, rfl⟩, p, _, rfl, .inr rfl, upd_same, h0,
        .dct rfl (.cons (ry.mono fun a u h e => ⟨h, by rw [upd_ne (fun z => h.2.2 (.inr z))]; exact e⟩) .nil)⟩⟩
end DL
set_option Elab.async false
set_option linter.all false
set_option maxRecDepth 100000
set_option maxHeartbeats 2000000
namespace DL
open PySem PySem.Spec PyProof.Rows L2 PpSet
abbrev NoE : Value → Shared → Prop := fun _ _ => False
/-- what one turn of a clause's loop has to do: the body B is done and the state is nearer the end, or the walk is over -/
def TurnDoes (Y : Cx) (tg : Expr) (itv : Value) (B : (Shared → Prop) → Shared → Prop) (I : Nat → Shared → Prop) (Z : Shared → Prop) : Prop :=
  ∀ n s, I n s → wpAny (model Y.prog Y.w) Y.A (pyNext itv) (fun r s1 => match r with
    | none => Z s1
    | some v => wpAny (model Y.prog Y.w) Y.A (letOwnedTupleGo tg itv v) (fun _ s2 => wpAny (model Y.prog Y.w) Y.A (assign tg Y.env v) (fun _ s3 => B (fun s4 => ∃ m, m < n ∧ I m s4) s3) NoE s2) NoE s1) NoE s
/-- an iterator walked inside a block, B done for each item -/
theorem walk_does {Y : Cx} (hc : Y.calm = true) (hx : Y.xe = NoE) {tg : Expr} {J : It} {fp : List Addr} {it : Addr} {tn : Nat → Heap → Prop} (T : Turn Y.prog Y.w Y.K tg J fp it tn) {pins : List (Addr × Obj)} {σ0 : SS} {g : TG} (hg : PG Y tg g)
    {B : (Shared → Prop) → Shared → Prop} (hfp : ∀ H s, Inv Y pins σ0 H s → (∀ b ∈ fp, H b = none) → ∀ b ∈ fp, FpOk Y pins H b) (n : Nat) (G : Nat → Hp → Prop) (Z : Hp → Prop) (Bd : Nat → SS → Hp → Prop)
    (hG : ∀ i H, G i H → (J.stop i H ∧ Z H) ∨ (i < n ∧ J.go i H ∧ ∀ x H', J.yld i H x H' → g x σ0 H' (Bd i)))
    (hB : ∀ i (pl : List (Addr × Obj)) (s : Shared) (σ : SS) (H : Hp) (K : Shared → Prop), Inv Y pl σ H s → Bd i σ H → (∀ s' σ' H', Inv Y pl σ' H' s' → σ0.length = σ'.length → (∀ (j : Nat) v, σ0[j]? = some (some v) → σ'[j]? = some (some v)) → G (i + 1) H' → K s') → B K s) :
    TurnDoes Y tg (.ref it) B (fun k s => ∃ i H, k = n - i ∧ Inv Y pins σ0 H s ∧ tn i s.heap ∧ (∀ b ∈ fp, H b = none) ∧ G i H) (fun s => ∃ H, Inv Y pins σ0 H s ∧ Z H) := by
  rintro k s ⟨i, H, rfl, I, st, nf, gi⟩
  rcases hG i H gi with ⟨stop, z⟩ | ⟨hlt, go, step⟩
  · refine thnF (T.done Y rfl rfl rfl hc i pins s σ0 H NoE I (hfp H s I nf) st stop) fun r s1 ⟨hr, I1⟩ => ?_
    subst hr
    exact ⟨H, I1, z⟩
  · refine thnF (T.item Y rfl rfl rfl hc i pins s σ0 H NoE I (hfp H s I nf) st go) fun r s1 ⟨u, hr, h1⟩ => ?_
    subst hr
    refine thnF h1 fun _ s2 ⟨x, H2, I2, r2, y2, st2, n2⟩ => ?_
    refine wpAny_mono (hg.run _ s2 σ0 H2 x u _ (I2.pinned (hfp H2 s2 I2 n2) (T.obj _ _ st2)) r2 (step x H2 y2)) (fun _ s3 ⟨σ3, H3, I3, q3⟩ => ?_) (fun _ _ e => by rw [hx] at e; exact e)
    refine hB i _ s3 σ3 H3 _ I3 q3 fun s4 σ4 H4 I4 hl hk g4 => ?_
    have old : ∀ b ∈ fp, ∀ o, s2.heap.get? b = some o → s4.heap.get? b = some o ∧ H4 b = none := fun b hb o e =>
      have z := I4.pin (b, o) (List.mem_append_right _ (List.mem_append_right _ (mem_pinsAt hb e)))
      ⟨z.1, z.2.1⟩
    exact ⟨n - (i + 1), by omega, i + 1, H4, rfl, I4.unpinned.weak hl hk, T.keep _ _ _ st2 fun b hb o e => (old b hb o e).1, fun b hb => have ⟨o, e, _⟩ := T.obj _ _ st2 b hb; (old b hb o e).2, g4⟩
section
end
section
end
section
end
section
end
end DL
set_option Elab.async false
set_option linter.all false
set_option maxRecDepth 100000
set_option maxHeartbeats 2000000
namespace DL
open PySem PySem.Spec PyProof.Rows L2
section
end
end DL
set_option Elab.async false
set_option linter.all false
set_option maxRecDepth 100000
set_option maxHeartbeats 2000000
namespace DL
open PySem PySem.Spec PyProof.Rows L2
/-- tuples of ints, one less than the other -/
def ltL : List Int → List Int → Bool
  | [], [] => false
  | [], _ :: _ => true
  | _ :: _, [] => false
  | x :: xs, y :: ys => if x = y then ltL xs ys else decide (x < y)
theorem ltL_irr : ∀ a : List Int, ltL a a = false
  | [] => rfl
  | x :: a => by show (if x = x then ltL a a else _) = false; rw [if_pos rfl]; exact ltL_irr a
theorem ltL_asym : ∀ a b : List Int, ltL a b = true → ltL b a = false
  | [], [], h => by cases h
  | [], _ :: _, _ => rfl
  | _ :: _, [], h => by cases h
  | x :: a, y :: b, h => by
    unfold ltL at h ⊢
    by_cases e : x = y
    · rw [if_pos e] at h
      rw [if_pos e.symm]
      exact ltL_asym a b h
    · rw [if_neg e] at h
      rw [if_neg (Ne.symm e)]
      have := of_decide_eq_true h
      exact decide_eq_false (by omega)
theorem ltL_tr : ∀ a b c : List Int, ltL b a = false → ltL c b = false → ltL c a = false
  | a, [], [], h, _ => h
  | [], _ :: _, [], h, h2 => by cases h2
  | _ :: _, _ :: _, [], h, h2 => by cases h2
  | [], [], _ :: _, _, _ => rfl
  | [], _ :: _, _ :: _, _, _ => rfl
  | _ :: _, [], _ :: _, h, _ => by cases h
  | x :: a, y :: b, z :: c, h, h2 => by
    unfold ltL at h h2 ⊢
    by_cases e1 : y = x
    · rw [if_pos e1] at h
      by_cases e2 : z = y
      · rw [if_pos e2] at h2
        rw [if_pos (e2.trans e1)]
        exact ltL_tr a b c h h2
      · rw [if_neg e2] at h2
        have := of_decide_eq_false h2
        rw [if_neg (by omega)]
        exact decide_eq_false (by omega)
    · rw [if_neg e1] at h
      have h1 := of_decide_eq_false h
      by_cases e2 : z = y
      · rw [if_neg (by omega)]
        exact decide_eq_false (by omega)
      · rw [if_neg e2] at h2
        have := of_decide_eq_false h2
        rw [if_neg (by omega)]
        exact decide_eq_false (by omega)
theorem ltL_eq : ∀ a b : List Int, ltL a b = false → ltL b a = false → a = b
  | [], [], _, _ => rfl
  | [], _ :: _, h, _ => by cases h
  | _ :: _, [], _, h => by cases h
  | x :: a, y :: b, h, h2 => by
    unfold ltL at h h2
    by_cases e : x = y
    · rw [if_pos e] at h
      rw [if_pos e.symm] at h2
      rw [e, ltL_eq a b h h2]
    · rw [if_neg e] at h
      rw [if_neg (Ne.symm e)] at h2
      have h3 := of_decide_eq_false h
      have h4 := of_decide_eq_false h2
      omega
theorem swo_ltL {α : Type} (k : α → List Int) : SrtO.Swo fun v u => ltL (k v) (k u) := ⟨fun x y => ltL_asym _ _, fun x y z h1 h2 => ltL_tr _ _ _ h1 h2⟩
section
variable {prog : Program} {w : World} {A : Around} {E : Value → Shared → Prop} {s : Shared} {Q : Bool → Shared → Prop}
theorem lex_any {b fin : Bool} {xs ys : List Value} {ns ms : List Int} (i : Nat) (hx : IntsAre xs ns) (hy : IntsAre ys ms) (hf : fin = decide (ns.length < ms.length)) (h : Q (ltL ns ms) s) : PySem.W.KatLex prog w A b fin Q (xs.zip ys) i s := by
  induction hx generalizing ys ms i with
  | nil =>
    refine PySem.W.kat_nil ?_
    cases hy with
    | nil => rw [hf]; exact h
    | cons q u hy => rw [hf]; exact h
  | @cons p t xs ns hx ih =>
    cases hy with
    | nil =>
      refine PySem.W.kat_nil ?_
      rw [hf]; exact h
    | @cons q u ys ms hy =>
      have hf' : fin = decide (ns.length < ms.length) := by rw [hf]; exact decide_eq_decide.mpr (by simp only [List.length_cons]; omega)
      refine PySem.W.kat_cons (wpAny_eqBool_int ?_)
      by_cases e : p = q
      · have g : ltL (p :: ns) (q :: ms) = ltL ns ms := if_pos e
        rw [g] at h
        subst e
        rw [beq_self_eq_true]
        exact PySem.W.kat_yes (ih _ hy hf' h)
      · have g : ltL (p :: ns) (q :: ms) = decide (p < q) := if_neg e
        rw [g] at h
        rw [show (p == q) = false from beq_eq_false_iff_ne.mpr e]
        exact PySem.W.kat_no (TS.oneLt_ints _ h)
/-- the first items of tuples that have one -/
theorem heads_of {h : Heap} : ∀ vs : List Value, (∀ v ∈ vs, ∃ ns, TS.TupInts h v ns ∧ ns ≠ []) → ∃ fs, PySem.W.KatTups h vs fs ∧ fs.length = vs.length ∧ ∀ f ∈ fs, ∃ n t, f = Value.int n t
  | [], _ => ⟨[], .nil, rfl, fun f hf => nomatch hf⟩
  | v :: vs, x => by
    obtain ⟨fs, k, hl, hi⟩ := heads_of vs fun u hu => x u (.tail _ hu)
    obtain ⟨ns, ⟨a, xs, rfl, ⟨ob, ho, hc, n, hd⟩, i⟩, hn⟩ := x v (.head _)
    cases hq : xs.toList with
    | nil =>
      rw [hq] at i
      cases i
      exact absurd rfl hn
    | cons y ys =>
      obtain ⟨m, t, rfl⟩ := i.all y (by rw [hq]; exact .head _)
      have h0 : xs[0]? = some (Value.int m t) := by
        have := congrArg (fun l : List Value => l[0]?) hq
        simpa using this
      refine ⟨_ :: fs, .cons ho hc hd h0 k, congrArg (· + 1) hl, fun f hf => ?_⟩
      rcases List.mem_cons.mp hf with rfl | hf
      · exact ⟨m, t, rfl⟩
      · exact hi f hf
theorem sortable_any {a : Addr} {vs : List Value} (h0 : 0 < vs.length) (hp : ∀ v ∈ vs, ∃ ns, TS.TupInts s.heap v ns ∧ ns ≠ []) (ha : ∀ o, s.heap.get? a = some o → o.cls ≠ .type "tuple") (k : Value → List Int) (hk : ∀ v ∈ vs, ∀ ns, TS.TupInts s.heap v ns → k v = ns) :
    SrtO.SortableO prog w A s a vs fun v u => ltL (k v) (k u) := by
  intro h' keep
  have kp : ∀ b o, s.heap.get? b = some o → o.cls = .type "tuple" → h'.get? b = some o := fun b o e c => keep b o (fun z => ha o (z ▸ e) c) e
  obtain ⟨fs, h1, h2, h3⟩ := heads_of (h := h') vs fun v hv => have ⟨ns, t, ne⟩ := hp v hv; ⟨ns, t.keeps kp, ne⟩
  refine ⟨tuples' true, fun Q E hq => ?_, fun p q hm hm' => ?_⟩
  · have e : (Value.type "int" != Value.type "tuple") = true := by decide +kernel
    refine PySem.W.kat_kind (T := .type "int") h1 (by omega) (fun f hf => ?_) (by rfl) (by rw [e]; exact hq)
    obtain ⟨x, t, rfl⟩ := h3 f hf
    exact PySem.W.Looks.now
  · obtain ⟨ns, t1, _⟩ := hp _ hm
    obtain ⟨ms, t2, _⟩ := hp _ hm'
    have e1 := hk _ hm ns t1
    have e2 := hk _ hm' ms t2
    obtain ⟨a1, xs, r1, ⟨o1, ho1, hc1, n1, hd1⟩, i1⟩ := t1.keeps kp
    obtain ⟨a2, ys, r2, ⟨o2, ho2, hc2, n2, hd2⟩, i2⟩ := t2.keeps kp
    show wpAny (model prog w) A (keyLt' (tuples' true) p.1 q.1) (fun r s' => s' = { s with heap := h' } ∧ r = ltL (k p.1) (k q.1)) (fun _ _ => False) { s with heap := h' }
    rw [e1, e2, r1, r2]
    refine PySem.W.kat_lt ho1 hd1 ho2 hd2 (lex_any 0 i1 i2 ?_ ⟨rfl, rfl⟩)
    have l1 := i1.length
    have l2 := i2.length
    rw [Array.length_toList] at l1 l2
    rw [l1, l2]
end
section
end
def tuD (ns : List Int) : D := .tuple (ns.map .int)
def leL (a b : List Int) : Bool := !ltL b a
def sortM (l : List (List Int)) : List (List Int) := sortBy leL l
theorem leL_tot (a b : List Int) : leL a b = true ∨ leL b a = true := by
  unfold leL
  cases h : ltL b a with
  | false => exact .inl rfl
  | true => rw [ltL_asym _ _ h]; exact .inr rfl
theorem leL_tr (a b c : List Int) (h1 : leL a b = true) (h2 : leL b c = true) : leL a c = true := by
  unfold leL at h1 h2 ⊢
  simp only [Bool.not_eq_true'] at h1 h2 ⊢
  exact ltL_tr a b c h1 h2
theorem sortM_eq {a b : List (List Int)} (h : a.Perm b) (ha : a.Pairwise fun x y => ltL y x = false) : a = sortM b := by
  refine sorted_one (fun x y => ltL y x = false) (fun x y h1 h2 => ltL_eq x y h2 h1) (fun x => ltL_irr x) (h.trans (sortBy_perm _ b).symm) ha ?_
  exact (sortBy_up (le := leL) (fun a b c => leL_tr a b c) leL_tot b).imp fun h => by unfold leL at h; simpa using h
end DL
set_option Elab.async false
set_option linter.all false
set_option maxRecDepth 100000
set_option maxHeartbeats 2000000
namespace DL
open PySem PySem.Spec PyProof.Rows L2
open PySem.W (alike dataLt dataLe keyToks AllAlike Sortable EachIs dataKind sortVals)
section
end
end DL
set_option Elab.async false
set_option linter.all false
set_option maxRecDepth 100000
set_option maxHeartbeats 4000000
namespace DL
open PySem PySem.Spec PyProof.Rows L2 PpSet
section
variable {P : Program} {w : World} {A : Around} {E : Value → Shared → Prop} {s : Shared} {a : Addr} {L : List (Addr × List Int)} {es : Array (Int × Value)} {ep : Nat} {t : SetTable}
theorem setT_add {x : Addr} {k : List Int} {Q : Value → Shared → Prop} (R : SetTR P w s.heap a L es ep t) (hx : IsT P w s.heap k x) (hu : A.units + 8 < cLine) (hfew : L.length + 1 < 64)
    (hQ : ∀ h' tk L' es' ep' t', Heap.SameBut a s.heap h' → SetTR P w h' a L' es' ep' t' → (k ∈ L.map (·.2) → L' = L) → (k ∉ L.map (·.2) → L'.Perm ((x, k) :: L)) → Q .none { s with heap := h', toks := tk }) :
    wpAny (model P w) A (call (.builtin "set.add") [.ref a, .ref x]) Q E s := by
  obtain ⟨o, ho, hex, hd⟩ := id R.ob
  refine wpAny_call_entry F.slot_set_add ⟨o, ho, hex.1⟩ F.entry_set_add ?_ (F.args_set_add_2 _ _)
  unfold Builtin.«set.add» Builtin.Frozenset.oneOther
  simp only [List.isEmpty_nil, bind_assoc]
  unfold Builtin.Frozenset.addrOf setAdd
  refine wpAny_bind (wpAny_pure ?_)
  try dsimp only
  refine wpAny_bind (wpAny_pure ?_)
  try dsimp only
  refine wpAny_bind ?_
  refine wpAny_holding ?_
  refine wpAny_bind (wpAny_pyHash_tuple (by first | omega | (show A.units + 1 < cLine; omega)) hx ?_)
  refine add_at (s := { s with toks := s.toks + (k.length + 1) }) R hx (by first | omega | (show A.units + 1 < cLine; omega)) hfew fun b h' L' es' ep' t' sb r c1 c2 => ?_
  show wpAny _ _ (ret Value.none) _ _ _
  exact wpAny_pure ⟨_, rfl, hQ h' _ L' es' ep' t' sb r c1 c2⟩
end
section
variable {X : Cx}
def rSAddT (K : PySem.W.Frag) (P : Program) (w : World) : V → List V → Hp → VK → Prop := fun x xs H Q => ∃ (a b : Addr) (k : List Int) (L : List (Addr × List Int)), x = .ref a ∧ xs = [.ref b] ∧ H a = some (SetTO P w a L) ∧ SqT K H b (k.map V.int) ∧ (∀ p ∈ L, SqT K H p.1 (p.2.map V.int)) ∧ L.length + 1 < 64 ∧
  ∀ L' : List (Addr × List Int), (k ∈ L.map (·.2) → L' = L) → (k ∉ L.map (·.2) → L'.Perm ((b, k) :: L)) → Q .non (upd H a (SetTO P w a L'))
theorem mt_saddT (hu : X.A.units + 64 < cLine) : MtR X "set.add" (rSAddT X.K X.prog X.w) := by
  intro pins s σ H x xs v us Q I rx rxs h
  obtain ⟨a, b, k, L, rfl, rfl, ha, hb, hL, hfew, q⟩ := h
  cases rx
  cases rxs with
  | cons ry rt =>
    cases rt
    cases ry
    have R0 : SetT0 X.prog X.w s.heap a L := (I.hok a _ ha).1
    obtain ⟨es, ep, t, R⟩ := R0.full fun p hp => I.isT (hL p hp)
    refine setT_add R (I.isT hb) (by omega) hfew fun h' tk L' es' ep' t' sb new c1 c2 => ?_
    have he : ∃ u, h'.get? a = some u := by
      obtain ⟨o, ho, _⟩ := new.ob
      exact ⟨o, ho⟩
    exact ⟨.non, upd H a (SetTO X.prog X.w a L'), I.write (e := a) (t' := tk) (by rw [ha]; trivial) (.inl rfl) (fun b u hb hu => (sb.2 b hb).trans hu) he (setTO_new new.t0), rfl, q L' c1 c2⟩
/-- sorted of a set of tuples of ints, none of them empty -/
def rSortedMT (K : PySem.W.Frag) (P : Program) (w : World) : List V → Hp → VK → Prop := fun vs H Q => ∃ (a : Addr) (L : List (Addr × List Int)), vs = [V.ref a] ∧ H a = some (SetTO P w a L) ∧ (∀ p ∈ L, SqT K H p.1 (p.2.map V.int)) ∧ (∀ p ∈ L, p.2 ≠ []) ∧
  ∀ (L' : List (Addr × List Int)) (p : Addr), L'.Perm L → L'.Pairwise (fun q r => ltL r.2 q.2 = false) → H p = none → Q (.ref p) (upd H p (.lst (L'.map fun q => V.ref q.1)))
theorem cr_sortedMT (hc : X.calm = true) : CallR X (.builtin "sorted") (rSortedMT X.K X.prog X.w) := by
  intro pins s σ H vs us Q I r h
  obtain ⟨a, L, rfl, ha, hk, hne, q⟩ := h
  have R0 : SetT0 X.prog X.w s.heap a L := (I.hok a _ ha).1
  obtain ⟨es, ep, t, R⟩ := R0.full fun p hp => I.isT (hk p hp)
  rw [Vals.ref1 r]
  obtain ⟨o, ho, hex, hd⟩ := R.ob
  have hsz := R.size
  have hfew := R.few
  have hh := I.ok.hd hc
  refine Calls.call_function_entry kind_sorted plain_sorted entry_sorted (args_sorted1 _) ?_
  unfold Builtin.«sorted»
  refine wpAny_bind (m := checkCount "sorted" 1 1 _) (wpAny_pure ?_)
  refine wpAny_bind (collect_set (A := X.A.in1) hh ⟨o, ho, hex.1, hd⟩ R.fits (by unfold scanBound; omega) R.tab.ris R.led fun s1 vs k1 hz g1 o1 pm => ?_)
  have hes : es.toList.map (·.2) = L.map fun q => Value.ref q.1 := by
    rw [R.rows]
    unfold L2.rowsOf
    rw [List.map_map] <;> rfl
  rw [hes] at pm
  have ord : ∀ vs : List Value, (∀ v ∈ vs, ∃ q ∈ L, v = Value.ref q.1) → ∃ L1 : List (Addr × List Int), vs = L1.map (fun q => Value.ref q.1) ∧ ∀ q ∈ L1, q ∈ L := by
    intro vs
    induction vs with
    | nil => intro _; exact ⟨[], rfl, fun q hq => (by cases hq)⟩
    | cons v vs ih =>
      intro hv
      obtain ⟨q, hq, e⟩ := hv v List.mem_cons_self
      obtain ⟨L1, e1, hs⟩ := ih fun u hu => hv u (List.mem_cons_of_mem _ hu)
      refine ⟨q :: L1, by rw [List.map_cons, e, e1], fun r hr => ?_⟩
      rcases List.mem_cons.mp hr with z | z
      · rw [z]; exact hq
      · exact hs r z
  have one : ∀ q ∈ L, ∀ r ∈ L, q.1 = r.1 → q = r := fun q hq r hr e => by
    have a1 := R.tup q hq
    have a2 := R.tup r hr
    rw [e] at a1
    have e2 : q.2 = r.2 := a1.inj a2
    exact Prod.ext e e2
  have perm_of : ∀ L1 : List (Addr × List Int), (∀ q ∈ L1, q ∈ L) → (L1.map (fun q => Value.ref q.1)).Perm (L.map fun q => Value.ref q.1) → L1.Perm L := by
    intro L1 hs pm1
    have nL : L.Nodup := nodup_of_map R.nd
    have nref : (L.map fun q => Value.ref q.1).Nodup := by
      refine List.pairwise_map.mpr (List.Pairwise.imp_of_mem (fun {q r} hq hr hne e => ?_) nL)
      injection e with e
      exact hne (one q hq r hr e)
    have n1 : L1.Nodup := nodup_of_map (pm1.nodup_iff.mpr nref)
    refine (List.perm_ext_iff_of_nodup n1 nL).mpr fun q => ⟨hs q, fun hq => ?_⟩
    have hm : Value.ref q.1 ∈ L1.map (fun q => Value.ref q.1) := pm1.mem_iff.mpr (List.mem_map.mpr ⟨q, hq, rfl⟩)
    obtain ⟨r, hr, e⟩ := List.mem_map.mp hm
    injection e with e
    rw [← one r (hs r hr) q hq e]
    exact hr
  have hvl : vs.length < 64 := by rw [pm.length_eq, List.length_map]; exact hfew
  refine wpAny_bind (wpAny_newList ?_ (by rw [sizeLine_eq]; omega))
  have hoL : (s1.heap.push (seqObj "list" vs.toArray 0)).get? s1.heap.objs.size = some (seqObj "list" vs.toArray 0) := Heap.get?_push_size _ rfl
  have tk : ∀ q ∈ L, TS.TupInts (s1.heap.push (seqObj "list" vs.toArray 0)) (.ref q.1) q.2 := fun q hq => tupInts_of (P := X.prog) (w := X.w) (isT_keep (R.tup q hq) fun b u e => Heap.get?_push_of_some _ (k1 b u e))
  have x : ∀ v ∈ vs, ∃ ns, TS.TupInts (s1.heap.push (seqObj "list" vs.toArray 0)) v ns ∧ ns ≠ [] := fun v hv => by
    obtain ⟨q, hq, e⟩ := List.mem_map.mp (pm.mem_iff.mp hv)
    rw [← e]
    exact ⟨q.2, tk q hq, hne q hq⟩
  refine wpAny_bind (wpAny_holding (wpAny_call_entry slot_list_sort ⟨_, hoL, rfl⟩ entry_list_sort (SrtO.list_sort_ord (s := { s1 with heap := s1.heap.push (seqObj "list" vs.toArray 0) }) (swo_ltL (TS.intsOf (s1.heap.push (seqObj "list" vs.toArray 0)))) hoL (by rw [sizeLine_eq]; omega) (fun h2 => ?_) fun out a2 a1 => ⟨_, rfl, ?_⟩) (args_list_sort _)))
  · refine sortable_any (s := { s1 with heap := s1.heap.push (seqObj "list" vs.toArray 0) }) (by omega) x (fun o e => ?_) (TS.intsOf (s1.heap.push (seqObj "list" vs.toArray 0))) fun v hv ns t => t.ints
    cases e.symm.trans hoL
    intro c
    exact absurd (Value.type.inj c) (by decide)
  · have hp1 : out.Perm vs := a1.perm
    obtain ⟨L', e', hs'⟩ := ord out fun v hv => by
      obtain ⟨q, hq, e⟩ := List.mem_map.mp (pm.mem_iff.mp (hp1.mem_iff.mp hv))
      exact ⟨q, hq, e.symm⟩
    have pL : L'.Perm L := perm_of L' hs' (by rw [← e']; exact hp1.trans pm)
    have pw : L'.Pairwise (fun q r => ltL r.2 q.2 = false) := by
      rw [e'] at a2
      refine List.Pairwise.imp_of_mem (fun {q r} hq hr hle => ?_) (List.pairwise_map.mp a2)
      have f1 : TS.intsOf (s1.heap.push (seqObj "list" vs.toArray 0)) (.ref q.1) = q.2 := (tk q (hs' q hq)).ints
      have f2 : TS.intsOf (s1.heap.push (seqObj "list" vs.toArray 0)) (.ref r.1) = r.2 := (tk r (hs' r hr)).ints
      rw [← f1, ← f2]
      exact hle
    obtain ⟨c, hc2⟩ := sortedHeap_at (vs := vs) (out := out.toArray) hoL
    have hlen : (L'.map fun q => V.ref q.1).length ≤ sizeLine := by rw [List.length_map, pL.length_eq, sizeLine_eq]; omega
    have hpn : s.heap.objs.size ≤ s1.heap.objs.size := hz
    have hn : H s1.heap.objs.size = none := I.hok.fresh hpn
    have hv : Vals (L'.map fun q => V.ref q.1) out := by rw [e']; exact vals_of_refs L'
    have k2 : ∀ b u, s.heap.get? b = some u → (sortedHeap (s1.heap.push (seqObj "list" vs.toArray 0)) s1.heap.objs.size vs out.toArray).get? b = some u := fun b u e => by
      have q := k1 b u e
      have hlt := Heap.lt_size q
      rw [sortedHeap_old (Nat.ne_of_lt hlt) (by rw [size_push']; exact Nat.lt_succ_of_lt hlt)]
      exact Heap.get?_push_of_some _ q
    have J : Inv X pins σ (upd H s1.heap.objs.size (.lst (L'.map fun q => V.ref q.1))) { s with heap := sortedHeap (s1.heap.push (seqObj "list" vs.toArray 0)) s1.heap.objs.size vs out.toArray, gens := s1.gens, drawn := s1.drawn, toks := s1.toks } :=
      I.call (ch := []) (Un.laid k2 hpn hn) (I.hok.laid k2 hpn ⟨hlen, out, c, hv, by simpa using hc2⟩) (by rw [g1]; exact I.bare) (fun _ z => nomatch z)
    refine wpAny_pure ⟨_, rfl, ?_⟩
    have e : ({ s1 with heap := sortedHeap (s1.heap.push (seqObj "list" vs.toArray 0)) s1.heap.objs.size vs out.toArray } : Shared) = { s with heap := sortedHeap (s1.heap.push (seqObj "list" vs.toArray 0)) s1.heap.objs.size vs out.toArray, gens := s1.gens, drawn := s1.drawn, toks := s1.toks } := by
      cases s1
      cases s
      cases o1
      rfl
    show EP X pins σ Q _ { s1 with heap := sortedHeap (s1.heap.push (seqObj "list" vs.toArray 0)) s1.heap.objs.size vs out.toArray }
    rw [e]
    exact ⟨.ref _, _, J, rfl, q L' _ pL pw hn⟩
end
theorem turn_s1 (elt t0 i0 : Expr) (scope : Scope) (pos : Pos) (it acc : Value) (env : Env) :
    compTurn (.SetComp elt [⟨t0, i0, [], 0⟩] scope pos) 0 it acc env = (standAt i0.pos >>= fun _ => pyNext it >>= fun
      | none => pure (.done .next)
      | some v => letOwnedTupleGo t0 it v >>= fun _ => assign t0 env v >>= fun _ => (eval elt env >>= fun y => standAt elt.pos >>= fun _ => call (.builtin "set.add") [acc, y] >>= fun _ => pure ()) >>= fun _ =>
        again (.compLoop (.SetComp elt [⟨t0, i0, [], 0⟩] scope pos) 0 it acc env)) := by rfl
theorem s1_loop {Y : Cx} {elt t0 i0 : Expr} {scope : Scope} {pos : Pos} {itv acc : Value} {R : Result → Shared → Prop} {I : Nat → Shared → Prop}
    (h : TurnDoes Y t0 itv (fun K s => wpAny (model Y.prog Y.w) Y.A (eval elt Y.env) (fun y s1 => wpAny (model Y.prog Y.w) Y.A (call (.builtin "set.add") [acc, y]) (fun _ s2 => K s2) NoE s1) NoE s) I (R (.ok .next))) (n : Nat) {s : Shared} (hI : I n s) :
    codeAny (model Y.prog Y.w) Y.A (.compLoop (.SetComp elt [⟨t0, i0, [], 0⟩] scope pos) 0 itv acc Y.env) R s := by
  refine codeAny_loop rfl I (fun m s1 hm => ?_) n hI
  refine wpAny_noted (m := compTurn (.SetComp elt [⟨t0, i0, [], 0⟩] scope pos) 0 itv acc Y.env) ?_
  rw [turn_s1]
  refine wpAny_bind (wpAny_standAt (wpAny_bind (thnF (h m s1 hm) fun r s2 q => ?_)))
  cases r with
  | none => exact wpAny_pure q
  | some v => exact wpAny_bind (thnF q fun _ s3 q => wpAny_bind (thnF q fun _ s4 q => wpAny_bind (wpAny_bind (thnF q fun y s5 q => wpAny_bind (wpAny_standAt (wpAny_bind (thnF q fun _ s6 q => wpAny_pure (wpAny_pure ⟨rfl, q⟩))))))))
def tupI : D → Option (List Int)
  | .tuple ds => (intsOf ds).bind fun ns => if ns = [] then none else some ns
  | _ => none
theorem tupI_spec {d : D} {k : List Int} (h : tupI d = some k) : d = tuD k ∧ k ≠ [] := by
  cases d with
  | tuple ds =>
    simp only [tupI, Option.bind_eq_some_iff] at h
    obtain ⟨ns, h1, h2⟩ := h
    by_cases hn : ns = []
    · rw [if_pos hn] at h2; cases h2
    · rw [if_neg hn] at h2
      cases h2
      exact ⟨by unfold tuD; rw [intsOf_spec h1], hn⟩
  | _ => cases h
def putS (acc : List (List Int)) (k : List Int) : List (List Int) := if k ∈ acc then acc else acc ++ [k]
def sc1 (vs : List Nat) (b : Fg) (fe : Fe) : List D → En → List (List Int) → Option (List (List Int) × En)
  | [], ρ, acc => some (acc, ρ)
  | d :: ds, ρ, acc => (b d (wipeE ρ vs)).bind fun ρ1 => (fe ρ1).bind fun y => (dat y.2 y.1).bind fun e => (tupI e).bind fun k => if acc.length < 60 then sc1 vs b fe ds (backE ρ y.2 vs) (putS acc k) else none
def fscS (vs : List Nat) (g : Fi) (b : Fg) (fe : Fe) : Fe := fun ρ => (g ρ).bind fun x => if noOwn x.2 vs then (sc1 vs b fe x.1 x.2 []).map fun y => (.fr (.list ((sortM y.1).map tuD)), y.2) else none
/-- a set of tuples stands at D -/
def IsSetT (P : Program) (w : World) (H : Hp) (D : Addr) (ms : List (List Int)) : Prop := ∃ L : List (Addr × List Int), H D = some (SetTO P w D L) ∧ (∀ p ∈ L, H p.1 = some (.tup (p.2.map V.int))) ∧ (L.map (·.2)).Perm ms ∧ ∀ p ∈ L, p.2 ≠ []
theorem putS_perm {L L' : List (Addr × List Int)} {ms : List (List Int)} {k : List Int} {b : Addr} (h : (L.map (·.2)).Perm ms) (c1 : k ∈ L.map (·.2) → L' = L) (c2 : k ∉ L.map (·.2) → L'.Perm ((b, k) :: L)) : (L'.map (·.2)).Perm (putS ms k) := by
  unfold putS
  by_cases e : k ∈ L.map (·.2)
  · rw [c1 e, if_pos (h.mem_iff.mp e)]; exact h
  · rw [if_neg fun z => e (h.mem_iff.mpr z)]
    refine ((c2 e).map _).trans ?_
    rw [List.map_cons]
    exact (List.Perm.cons _ h).trans (List.perm_append_singleton _ _).symm
section
variable {X : Cx} {elt tg iter : Expr} {scope : Scope} {own : List (Str × Nat)} {is : List Nat} {pos : Pos} {g : Fi} {b : Fg} {fe : Fe}
theorem rep_tupH {S : Addr → Prop} {H : Hp} {v : V} {k : List Int} (h : Rep S H v (tuD k)) : ∃ a, v = .ref a ∧ H a = some (.tup (k.map V.int)) := by
  unfold tuD at h
  cases h with
  | tup hs hr ha =>
    rw [ha.ints] at hr
    exact ⟨_, rfl, hr⟩
theorem we_sc1 (hc : X.calm = true) (hu : X.A.units + 65 < cLine) (hN : X.N.Nodup) (hi : DI X tg iter g) (ok : BlkOk X.N X.env.scope scope own) (hg : Blk X scope fun Y => DG Y tg is b) (he : Blk X scope fun Y => DE Y elt fe) (hsub : ∀ i ∈ is, i ∈ own.map (·.2)) (hs : ∀ x, foldedSetIterable iter X.env x = pure x)
    {P : Pk} {T : Addr → Prop} {σ : SS} {ρ ρ1 ρ2 : En} {H : Hp} {items : List D} {res : List (List Int)} (S : Sim P T σ ρ H) (e1 : g ρ = some (items, ρ1)) (hn : noOwn ρ1 (own.map (·.2)) = true) (e3 : sc1 (own.map (·.2)) b fe items ρ1 [] = some (res, ρ2)) {Q : VK}
    (q : ∀ D H', Sim P T σ ρ2 H' → Stp σ ρ H σ ρ2 H' → Kp ρ ρ2 → IsSetT X.prog X.w H' D res → Q (.ref D) H') : WE X (.SetComp elt [⟨tg, iter, [], 0⟩] scope pos) σ H Q := by
  generalize hown : own.map (·.2) = vs at hn e3 hsub
  intro pins s I
  rw [eval_SetComp]
  have cells : ∀ y ∈ scope.names, y.2 = .free → ∃ c, X.env.cells.lookup y.1 = some c := fun y hy e => (ok.free y hy e).elim (fun k => I.ok.has _ (.inl k)) (fun k => I.ok.has _ (.inr k))
  have start := hi P T σ ρ H items ρ1 S e1 (fun J H1 => ∃ T1, Sim P T1 σ ρ1 H1 ∧ Stp σ ρ H σ ρ1 H1 ∧ Kp ρ ρ1 ∧ Tg T H T1 ∧ Walk P T1 σ ρ1 H1 J items) (fun J H1 T1 a1 a2 a3 a4 a5 => ⟨T1, a1, a2, a3, a4, a5⟩) pins s I
  refine wpAny_comprehension_free (use := none) rfl hs (closure_ok cells) ok.kind (fun y hy e => by rw [ok.uniq y hy, e]) (wpAny_mono start (fun xv s1 h1 => wpAny_mono h1 (fun itv s2 h2 => ?_) fun _ _ e => e) fun _ _ e => e)
  obtain ⟨it, fp, tn, J, H2, rfl, I2, T0, st2, f2, T1, S1, stp1, kp1, tg1', W⟩ := h2
  refine newSet_ok (newEnv_comp ?_)
  generalize hD : s2.heap.objs.size = D
  have hDn : H2 D = none := I2.hok.fresh (Nat.le_of_eq hD)
  have I3 : Inv X pins σ (upd H2 D (SetTO X.prog X.w D [])) { s2 with heap := s2.heap.push { cls := .type "set", dict := none, data := .set #[] 0 (.fresh 0 0 (!X.w.params.followText "set-order")) } } := by
    have hg0 : (s2.heap.push { cls := .type "set", dict := none, data := .set #[] 0 (.fresh 0 0 (!X.w.params.followText "set-order")) }).get? D = some { cls := .type "set", dict := none, data := .set #[] 0 (.fresh 0 0 (!X.w.params.followText "set-order")) } := by
      rw [← hD]; exact Heap.get?_push_size _ rfl
    exact I2.laid (t' := s2.toks) (fun b o e => Heap.get?_push_of_some _ e) (Nat.le_of_eq hD) (setTO_new (setTR_fresh (P := X.prog) (w := X.w) hg0).t0)
  have there : ∀ b ∈ fp, ∃ o, s2.heap.get? b = some o := fun b hb => have ⟨o, e, _⟩ := T0.obj _ _ st2 b hb; ⟨o, e⟩
  generalize hs3 : ({ s2 with heap := s2.heap.push { cls := .type "set", dict := none, data := .set #[] 0 (.fresh 0 0 (!X.w.params.followText "set-order")) } } : Shared) = s3 at I3
  have keep3 : ∀ b o, s2.heap.get? b = some o → s3.heap.get? b = some o := fun b o e => by rw [← hs3]; exact Heap.get?_push_of_some _ e
  have f3 : ∀ b ∈ fp, FpOk X pins (upd H2 D (SetTO X.prog X.w D [])) b ∧ b < s3.heap.objs.size := fun b hb => by
    obtain ⟨o, e⟩ := there b hb
    refine ⟨⟨?_, (f2 b hb).2⟩, Heap.lt_size (keep3 b o e)⟩
    rw [upd_ne (fun z => absurd (Heap.lt_size e) (by rw [z, hD]; exact Nat.lt_irrefl _))]
    exact (f2 b hb).1
  have I4 := block_start I3 ok hN f3
  rw [hown] at I4
  have pg := hg s3 (upd H2 D (SetTO X.prog X.w D [])) s3.heap.objs.size (cellsFrom (s3.heap.objs.size + 1) scope.names (cloFrom X.env.cells scope.names [])) fp
  have pe := he s3 (upd H2 D (SetTO X.prog X.w D [])) s3.heap.objs.size (cellsFrom (s3.heap.objs.size + 1) scope.names (cloFrom X.env.cells scope.names [])) fp
  show codeAny _ _ (.compStart (.SetComp elt [⟨tg, iter, [], 0⟩] scope pos) 0 (.ref it) (.ref D) (compEnvC scope (cellsFrom (s3.heap.objs.size + 1) scope.names (cloFrom X.env.cells scope.names [])) s3.heap.objs.size X.env)) (compPost (model X.prog X.w) X.A X.xe none (EP X pins σ Q) (.ref D) s3.heap.objs.size) { s3 with heap := pushCells (s3.heap.push { cls := .type "dict", data := .dict #[] }) scope.names }
  generalize hce : compEnvC scope (cellsFrom (s3.heap.objs.size + 1) scope.names (cloFrom X.env.cells scope.names [])) s3.heap.objs.size X.env = ce at I4 pg pe ⊢
  have cL : ce.locals = s3.heap.objs.size := by subst hce; rfl
  generalize hH3 : upd H2 D (SetTO X.prog X.w D []) = H3 at I3 I4 pg pe f3
  have nf3 : ∀ b ∈ fp, H3 b = none := fun b hb => (f3 b hb).1.1
  generalize hs4 : ({ s3 with heap := pushCells (s3.heap.push { cls := .type "dict", data := .dict #[] }) scope.names } : Shared) = s4 at I4 ⊢
  have st4 : tn 0 s4.heap := T0.keep _ _ _ st2 fun b _ o e => by rw [← hs4]; exact pushCells_keeps _ _ _ _ (Heap.get?_push_of_some _ (keep3 b o e))
  generalize hY : X.blk s3 H3 scope ce fp = Y at I4 pg pe
  have hYp : Y.prog = X.prog := by rw [← hY]
  have hYw : Y.w = X.w := by rw [← hY]
  have hYA : Y.A = X.A := by rw [← hY]
  have hYK : Y.K = X.K := by rw [← hY]
  have hYe : Y.env = ce := by rw [← hY]
  have hYx : Y.xe = NoE := by rw [← hY]
  have hYc : Y.calm = true := by rw [← hY]; exact hc
  have TY : Turn Y.prog Y.w Y.K tg J fp it tn := by rw [← hY]; exact T0
  have fpY : ∀ H' s', Inv Y [] (wipe σ vs) H' s' → (∀ b ∈ fp, H' b = none) → ∀ b ∈ fp, FpOk Y [] H' b := fun H' s' I' hn b hb => by
    subst hY
    exact ⟨hn b hb, (I'.ok.exf b hb).1, I'.ok.exfs b hb, .inl hb, fun x c e => (I'.ok.exf b hb).2 x c e, fun p hp => absurd (show p ∈ ([] : List (Addr × Obj)) ++ [] from hp) (by simp)⟩
  obtain ⟨S3, _⟩ := S1.alloc (o := SetTO X.prog X.w D []) hDn
  rw [hH3] at S3
  have h0 : P.H0 D = none := h0_none S1 hDn
  generalize hT : (fun b => T1 b ∨ b = D) = TD at S3
  have tD : TD D := by rw [← hT]; exact .inr rfl
  have stp2 : Stp σ ρ1 H2 σ ρ1 H3 := by
    rw [← hH3]
    exact Stp.refl.wtmp hDn
  have hH3D : H3 D = some (SetTO X.prog X.w D []) := by rw [← hH3]; exact upd_same
  have hG : ∀ i H, (∃ ρi ms, Sim P TD σ ρi H ∧ Stp σ ρ1 H2 σ ρi H ∧ IsSetT X.prog X.w H D ms ∧ noOwn ρi vs = true ∧ Kp ρ1 ρi ∧ i ≤ items.length ∧ sc1 vs b fe (items.drop i) ρi ms = some (res, ρ2)) →
      (J.stop i H ∧ (Sim P TD σ ρ2 H ∧ Stp σ ρ1 H2 σ ρ2 H ∧ IsSetT X.prog X.w H D res ∧ Kp ρ1 ρ2)) ∨ (i < items.length ∧ J.go i H ∧ ∀ x H', J.yld i H x H' → WG Y tg x (wipe σ vs) H' fun σ4 H4 =>
        ∃ ρi ms Hy ρ3, Sim P TD σ ρi Hy ∧ Stp σ ρ1 H2 σ ρi Hy ∧ noOwn ρi vs = true ∧ Kp ρ1 ρi ∧ i < items.length ∧ Sim P TD σ4 ρ3 H4 ∧ Stp (wipe σ vs) (wipeE ρi vs) Hy σ4 ρ3 H4 ∧ Ch is (wipe σ vs) (wipeE ρi vs) σ4 ρ3 ∧ IsSetT X.prog X.w H4 D ms ∧
          ((fe ρ3).bind fun y => (dat y.2 y.1).bind fun e => (tupI e).bind fun k => if ms.length < 60 then sc1 vs b fe (items.drop (i + 1)) (backE ρi y.2 vs) (putS ms k) else none) = some (res, ρ2)) := by
    rintro i H ⟨ρi, ms, Si, sti, ⟨L, hL, hLt, hLp, hLn⟩, hni, kpi, hil, e5⟩
    by_cases hlt : i < items.length
    · right
      have hd : items.drop i = items[i] :: items.drop (i + 1) := List.drop_eq_getElem_cons hlt
      rw [hd] at e5
      simp only [sc1, Option.bind_eq_some_iff] at e5
      obtain ⟨ρ3, e6, e7⟩ := e5
      refine ⟨hlt, W.go i H sti.fr hlt, fun x Hy hy => ?_⟩
      obtain ⟨up, d, ed, rd⟩ := W.yld i H sti.fr hlt x Hy hy
      have ed' : items[i] = d := by rw [List.getElem?_eq_getElem hlt] at ed; exact Option.some.inj ed
      rw [ed'] at e6
      obtain ⟨Sy, sty⟩ := Si.grow .refl up (fun b hb => let ⟨o, e⟩ := (Si.tn b hb).1; ⟨o, up b o e⟩)
      obtain ⟨Sw, w1, w2⟩ := Sy.wiped (is := vs) hni
      have rd' : Rep (Av P TD (wipe σ vs) (wipeE ρi vs)) Hy x d := rd.mono fun a u h e => by
        refine ⟨?_, e⟩
        rcases h with ⟨⟨h1, h2, h3⟩, o', e'⟩ | h
        · refine ⟨h1, fun z => ?_, fun z => ?_⟩
          · rcases sti.os a (w1 a z) with z | z
            · exact h2 z
            · rw [e'] at z; cases z
          · rw [← hT] at z
            rcases z with z | z
            · exact h3 z
            · rw [z, hDn] at e'; cases e'
        · refine ⟨.inr (h0_none Si h), fun z => ?_, fun z => ?_⟩
          · obtain ⟨o', e'⟩ := own_dom Si (w1 a z)
            rw [h] at e'; cases e'
          · obtain ⟨⟨o', e'⟩, _⟩ := Si.tn a z
            rw [h] at e'; cases e'
      refine pg P _ _ _ Hy x d ρ3 Sw rd' e6 _ fun σ4 H4 S4 st4 ch4 => ?_
      refine ⟨ρi, ms, Hy, ρ3, Sy, sti.trans sty, hni, kpi, hlt, S4, st4, ch4, ⟨L, st4.fr D _ (up D _ hL) (fun z => (Sw.tn D tD).2 z), fun p hp => st4.fr p.1 _ (up _ _ (hLt p hp)) (tup_own Sw (up _ _ (hLt p hp))), hLp, hLn⟩, by simp only [Option.bind_eq_some_iff]; exact e7⟩
    · left
      have e : i = items.length := by omega
      subst e
      rw [List.drop_length] at e5
      cases e5
      exact ⟨W.stop H sti.fr, Si, sti, ⟨L, hL, hLt, hLp, hLn⟩, kpi⟩
  have loop : codeAny (model Y.prog Y.w) Y.A (.compLoop (.SetComp elt [⟨tg, iter, [], 0⟩] scope pos) 0 (.ref it) (.ref D) Y.env) (compPost (model X.prog X.w) X.A X.xe none (EP X pins σ Q) (.ref D) s3.heap.objs.size) s4 := by
    refine s1_loop (I := fun k s => ∃ i H, k = items.length - i ∧ L2.Inv Y [] (wipe σ vs) H s ∧ tn i s.heap ∧ (∀ b ∈ fp, H b = none) ∧ ∃ ρi ms, Sim P TD σ ρi H ∧ Stp σ ρ1 H2 σ ρi H ∧ IsSetT X.prog X.w H D ms ∧ noOwn ρi vs = true ∧ Kp ρ1 ρi ∧ i ≤ items.length ∧ sc1 vs b fe (items.drop i) ρi ms = some (res, ρ2)) (fun n s hIn => ?_) items.length ⟨0, H3, rfl, I4, st4, nf3, ρ1, [], S3, stp2, ⟨[], hH3D, fun p hp => (nomatch hp), List.Perm.refl _, fun p hp => (nomatch hp)⟩, hn, .refl, Nat.zero_le _, e3⟩
    have tw := walk_does (Y := Y) hYc hYx TY (pins := []) (σ0 := wipe σ vs) (g := WG Y tg) pgW
      (B := fun K s => wpAny (model Y.prog Y.w) Y.A (eval elt Y.env) (fun y s1 => wpAny (model Y.prog Y.w) Y.A (call (.builtin "set.add") [.ref D, y]) (fun _ s2 => K s2) NoE s1) NoE s) fpY items.length _ _ _ hG ?_
    · refine wpAny_mono (tw n s hIn) (fun r s1 h1 => ?_) fun _ _ e => e
      cases r with
      | some v => exact h1
      | none =>
        obtain ⟨H6, I6, S6, st6, hS6, kp6⟩ := h1
        subst hY
        have I7 : Inv X pins σ H6 s1 := I3.call' (ch := fp) I6.os I6.base I6.hok I6.bare fun b hb => ⟨(f3 b hb).1.2.2.2.1, (f3 b hb).1.2.1, (f3 b hb).1.2.2.2.2.1, (f3 b hb).1.2.2.2.2.2⟩
        have nC : H6 s3.heap.objs.size = none := by
          have z : H6 ce.locals = none := I6.free
          rw [cL] at z
          exact z
        obtain ⟨m, hm, _⟩ := I6.loc
        have hm : s1.heap.Ns ce.locals m := hm
        rw [cL] at hm
        refine ⟨m, hm, fun h' sb => ?_⟩
        obtain ⟨k0, k1, k2, k3, k4, k5⟩ := I3.fpOk (Nat.le_refl _) nC
        refine ⟨.ref D, H6, I7.turned (t' := s1.toks) (fun b o hb e => (sb.2 b hb).trans e) k0 k1 k3 k4 k5, rfl, ?_⟩
        have lT : ∀ b, T b → TD b := fun b z => by rw [← hT]; exact .inl (tg1'.1 b z)
        exact q D H6 (S6.less lT) (stp1.trans st6) (kp1.trans kp6) hS6
    · rintro i pl s σ4 H4 K I5 ⟨ρi, ms, Hy, ρ3, Sy, sty, hni, kpi, hlt, S4, st4, ch4, ⟨L, hL, hLt, hLp, hLn⟩, e7⟩ fin
      simp only [Option.bind_eq_some_iff] at e7
      obtain ⟨⟨r, ρ7⟩, e16, e, e17, k, e18, e19⟩ := e7
      obtain ⟨rfl, hk⟩ := tupI_spec e18
      by_cases hz : ms.length < 60
      case neg => rw [if_neg hz] at e19; cases e19
      rw [if_pos hz] at e19
      have hw4 : ∀ j, j ∉ vs → σ4[j]? = σ[j]? := fun j hj => by rw [ch4.2.1 j fun z => hj (hsub j z), wipe_out' hj]
      have hl4 : σ4.length = σ.length := by rw [ch4.1, wipe_length]
      have hw : wipe σ4 vs = wipe σ vs := wipe_eq hl4 hw4
      have ev := pe P TD σ4 ρ3 H4 r ρ7 S4 e16 (fun v H' => ∃ T', Aft P TD σ4 ρ3 H4 r ρ7 v H' T') (fun v H' T' A => ⟨T', A⟩) pl s I5
      rw [hYx] at ev
      refine thnF ev fun y s1 ⟨v, H9, I9, rv, T9, A⟩ => ?_
      obtain ⟨a, rfl, ha⟩ := rep_tupH (show Rep (Av P T9 σ4 ρ7) H9 v (tuD k) from A.val.top A.sim e17)
      have S9 := A.sim.less A.tx.tg.1
      have hL9 : H9 D = some (SetTO Y.prog Y.w D L) := by rw [hYp, hYw]; exact A.stp.fr D _ hL (S4.tn D tD).2
      have hT9 : ∀ p ∈ L, H9 p.1 = some (.tup (p.2.map V.int)) := fun p hp => A.stp.fr p.1 _ (hLt p hp) (tup_own S4 (hLt p hp))
      have hll : L.length = ms.length := by have := hLp.length_eq; rwa [List.length_map] at this
      have ad := mt_saddT (X := Y) (by rw [hYA]; omega) pl s1 σ4 H9 (V.ref D) [V.ref a] (.ref D) [y] (fun _ H' => ∃ L', H' = upd H9 D (SetTO Y.prog Y.w D L') ∧ (k ∈ L.map (·.2) → L' = L) ∧ (k ∉ L.map (·.2) → L'.Perm ((a, k) :: L))) I9 rfl (.cons rv .nil) ⟨D, a, k, L, rfl, rfl, hL9, .inl (.inl ha), fun p hp => .inl (.inl (hT9 p hp)), by omega, fun L' c1 c2 => ⟨L', rfl, c1, c2⟩⟩
      rw [hYx] at ad
      refine thnF ad fun _ s2 ⟨_, H10, I10, _, L', e10, c1, c2⟩ => ?_
      subst e10
      rw [hYp, hYw] at I10
      have len9 : ρ7.length = ρi.length := by rw [← S9.len, hl4]; exact Sy.len
      obtain ⟨Sb, stb⟩ := Sy.backed hni S9 hw4 len9 (st4.trans A.stp)
      have sub' : ∀ p ∈ L', p = (a, k) ∨ p ∈ L := fun p hp => by
        by_cases c : k ∈ L.map (·.2)
        · rw [c1 c] at hp; exact .inr hp
        · rcases List.mem_cons.mp ((c2 c).mem_iff.mp hp) with z | z
          · exact .inl z
          · exact .inr z
      have tp' : ∀ p ∈ L', H9 p.1 = some (.tup (p.2.map V.int)) := fun p hp => by
        rcases sub' p hp with rfl | z
        · exact ha
        · exact hT9 p z
      refine fin s2 σ4 _ I10 (by rw [wipe_length, hl4]) (fun j v e => ?_) ⟨backE ρi ρ7 vs, putS ms k, Sb.wtmp tD h0, (sty.trans stb).wtmp hDn, ⟨L', upd_same, fun p hp => ?_, putS_perm hLp c1 c2, fun p hp => ?_⟩, noOwn_back hni len9, kpi.trans (kp_back hni len9 (ch4.2.2.trans A.kp)), hlt, e19⟩
      · rw [← hw] at e
        exact (wipe_some e).1
      · rw [upd_ne fun z => ?_]
        · exact tp' p hp
        · have := tp' p hp
          rw [z, hL9] at this
          cases this
      · rcases sub' p hp with rfl | z
        · exact hk
        · exact hLn p z
  rw [hYp, hYw, hYA, hYe] at loop
  exact codeAny_compStart_set loop (T0.self X.A 0 _ _ _ st4 loop)
theorem de_scS {x : Str} {p q' : Pos} (hc : X.calm = true) (hu : X.A.units + 65 < cLine) (hN : X.N.Nodup) (hgl : Gl X x) (hm : X.mg x = none) (hv : bootBuiltins x = some (.builtin "sorted")) (hi : DI X tg iter g) (ok : BlkOk X.N X.env.scope scope own) (hg : Blk X scope fun Y => DG Y tg is b) (he : Blk X scope fun Y => DE Y elt fe) (hsub : ∀ i ∈ is, i ∈ own.map (·.2) := by decide) (hs : ∀ x, foldedSetIterable iter X.env x = pure x := by intro _; rfl)
    (hn : x ≠ "__name__" := by decide) (hdb : (x == ("__debug__" : Str)) = false := by decide)
    (hst : starEach [(.SetComp elt [⟨tg, iter, [], 0⟩] scope pos : Expr)] X.env = (false, eval (.SetComp elt [⟨tg, iter, [], 0⟩] scope pos) X.env) :: starEach [] X.env := by rfl) (hpl : (backTo q' (starEach [] X.env)).any (·.1) = false := by rfl) :
    DE X (.Call (.Name x p) [.SetComp elt [⟨tg, iter, [], 0⟩] scope pos] [] q') (fscS (own.map (·.2)) g b fe) := by
  intro P T σ ρ H rv ρ' S hf Q q
  simp only [fscS, Option.bind_eq_some_iff] at hf
  obtain ⟨⟨items, ρ1⟩, e1, e2⟩ := hf
  by_cases hno : noOwn ρ1 (own.map (·.2)) = true
  case neg => rw [if_neg hno] at e2; cases e2
  simp only [hno, if_true, Option.map_eq_some_iff] at e2
  obtain ⟨⟨res, ρ2⟩, e3, e4⟩ := e2
  obtain ⟨rfl, rfl⟩ := Prod.mk.inj e4
  refine PE.we (pe_callB (cr_sortedMT hc) hgl hm hv (pa_cons peW pa_nil hst) hn hdb hst hpl) ?_
  refine we_sc1 hc hu hN hi ok hg he hsub hs S e1 hno e3 fun D H' S' st' kp' ⟨L, hL, hLt, hLp, hLn⟩ => ?_
  refine ⟨D, L, rfl, hL, fun p hp => .inl (.inl (hLt p hp)), hLn, fun L' p pm pw hp => ?_⟩
  have e : (sortM res).map tuD = (L'.map (·.2)).map tuD := by
    congr 1
    refine (sortM_eq ((pm.map _).trans hLp) ?_).symm
    rw [List.pairwise_map]
    exact pw
  refine does_fin (o := .nl ((sortM res).map tuD)) (w := fun Q => ∀ p, H' p = none → Q (.ref p) (upd H' p (.lst (L'.map fun q => V.ref q.1)))) S' st' kp' .refl ⟨_, ?_, fun Q q => q⟩ q p hp
  rw [e]
  have key : ∀ l : List (Addr × List Int), (∀ p ∈ l, H' p.1 = some (.tup (p.2.map V.int))) → RepA (Av P T σ ρ2) H' (l.map fun q => V.ref q.1) ((l.map (·.2)).map tuD) := by
    intro l
    induction l with
    | nil => intro _; exact .nil
    | cons p l ih =>
      intro h
      have hp := h p (.head _)
      have z := S'.tp _ _ hp
      exact .cons (.tup ⟨z.1, tup_own S' hp, z.2⟩ hp (RepA.of_ints p.2)) (ih fun x hx => h x (.tail _ hx))
  exact key L' fun p hp => hLt p (pm.mem_iff.mp hp)
end
end DL
set_option Elab.async false
set_option linter.all false
set_option maxRecDepth 100000
set_option maxHeartbeats 2000000
namespace DL
open PySem PySem.Spec PyProof.Rows L2
def keysI : List (D × D) → Option (List Int)
  | [] => some []
  | (.int i, _) :: es => (keysI es).map (i :: ·)
  | _ => none
theorem keysI_nx {es : List (D × D)} {ks : List Int} (h : keysI es = some ks) : isX es = false := by
  cases es with
  | nil => rfl
  | cons p es =>
    obtain ⟨k, d⟩ := p
    cases k <;> first | rfl | cases h
theorem keysI_key {S : Addr → Prop} {H : Hp} : ∀ {es : List (D × D)} {ks : List Int} {kvs : List (Key × V)}, keysI es = some ks → RepK S H (kvs.map fun p => (kD p.1, p.2)) es → kvs.map (·.1) = ks.map Sum.inl
  | [], ks, kvs, h, r => by
    cases h
    cases kvs with
    | nil => rfl
    | cons p kvs => cases r
  | (k, d) :: es, ks, kvs, h, r => by
    cases k with
    | int i =>
      simp only [keysI, Option.map_eq_some_iff] at h
      obtain ⟨ks', h1, rfl⟩ := h
      cases kvs with
      | nil => cases r
      | cons p kvs =>
        obtain ⟨k, v⟩ := p
        cases k with
        | inl j =>
          rw [List.map_cons] at r
          have r : RepK S H ((PyData.int j, v) :: kvs.map fun p => (kD p.1, p.2)) ((PyData.int i, d) :: es) := r
          cases r with
          | cons r1 r2 =>
            rw [List.map_cons, List.map_cons, keysI_key h1 r2]
        | inr x =>
          rw [List.map_cons] at r
          have r : RepK S H ((PyData.str x, v) :: kvs.map fun p => (kD p.1, p.2)) ((PyData.int i, d) :: es) := r
          cases r
    | _ => cases h
def gSortedD : List D → Option OutV
  | [.dict es] => (keysI es).bind fun ks => if ks.length < 64 then some (.nl ((sortI ks).map .int)) else none
  | _ => none
def rSortedDI : List V → Hp → VK → Prop := fun xs H Q => ∃ (a : Addr) (kvs : List (Key × V)) (ks : List Int), xs = [.ref a] ∧ Rd H a (.dK kvs) ∧ kvs.map (·.1) = ks.map Sum.inl ∧ ks.length < 64 ∧
    ∀ (ys : List Int) (p : Addr), ys.Perm ks → ys.Pairwise (· ≤ ·) → H p = none → Q (.ref p) (upd H p (.lst (ys.map V.int)))
theorem opA_sortedD : OpL rSortedDI gSortedD := by
  intro S H xs ds o hx h
  match ds, h with
  | [.dict es], h =>
    obtain ⟨x, rfl, ht⟩ := topA1 hx
    simp only [gSortedD, Option.bind_eq_some_iff] at h
    obtain ⟨ks, h1, h2⟩ := h
    split at h2
    · rename_i hl
      cases h2
      obtain ⟨a, o, ps, rfl, hr, hd, rk⟩ := top_dct ht (keysI_nx h1)
      have hk : ∃ kvs, o = .dK kvs ∧ kvs.map (·.1) = ks.map Sum.inl := by
        cases o with
        | dK kvs => cases hd; exact ⟨kvs, rfl, keysI_key h1 rk⟩
        | dT kvs =>
          cases hd
          cases rk with
          | cons r1 r2 => cases h1
        | _ => cases hd
      obtain ⟨kvs, rfl, hk⟩ := hk
      refine ⟨_, rfl, fun Q q => ⟨a, kvs, ks, rfl, hr.rd, hk, hl, fun ys p e1 e2 hp => ?_⟩⟩
      rw [sortI_eq e1 e2]
      exact q _ p (RepA.of_ints _) hp
    · cases h2
theorem lookup_relabel (env : Env) : ∀ (names : List (Str × NameKind)) (x : Str), names.lookup x = some .cell ∨ names.lookup x = some .free →
    (names.map fun (n, k) => if (k == NameKind.free && env.scope.kind == .function && env.kindOf n == some .cell) then (n, NameKind.cell) else (n, k)).lookup x = some .cell ∨
    (names.map fun (n, k) => if (k == NameKind.free && env.scope.kind == .function && env.kindOf n == some .cell) then (n, NameKind.cell) else (n, k)).lookup x = some .free
  | [], _, h => by simp at h
  | (n, k) :: r, x, h => by
    have ih := lookup_relabel env r x
    rw [List.map_cons]
    generalize hc : (k == NameKind.free && env.scope.kind == .function && env.kindOf n == some .cell) = c
    show List.lookup x ((if (k == NameKind.free && env.scope.kind == .function && env.kindOf n == some .cell) = true then (n, NameKind.cell) else (n, k)) :: _) = _ ∨ List.lookup x ((if (k == NameKind.free && env.scope.kind == .function && env.kindOf n == some .cell) = true then (n, NameKind.cell) else (n, k)) :: _) = _
    rw [hc]
    cases hx : x == n with
    | true =>
      simp only [List.lookup_cons, hx] at h
      cases c with
      | true => left; simp [List.lookup_cons, hx]
      | false => simpa [List.lookup_cons, hx] using h
    | false =>
      simp only [List.lookup_cons, hx] at h
      cases c with
      | true => simpa [List.lookup_cons, hx] using ih h
      | false => simpa [List.lookup_cons, hx] using ih h
theorem blkOk_nest {N : List Str} {sc scope : Scope} {own : List (Str × Nat)} {env : Env} (h : blkC N sc scope own = true) : BlkOk N (relabel sc env) scope own :=
  have b := blkOk_by h
  ⟨b.kind, b.uniq, b.ix, fun y hy e => lookup_relabel env _ _ (b.free y hy e), b.own⟩
end DL
set_option Elab.async false
set_option linter.all false
set_option maxRecDepth 100000
set_option maxHeartbeats 1000000
namespace DL
open PySem PySem.Spec PyProof.Rows L2
end DL
set_option Elab.async false
set_option linter.all false
set_option maxRecDepth 100000
set_option maxHeartbeats 4000000
namespace Sh
open PySem PySem.Spec PyProof.Rows L2 DL
section
variable (ρ : En) (f g h : Fe) (fs : Fa) (c c2 : Ft) (s s2 : Fst) (d : D)
@[simp] theorem s_fc : fc d ρ = some (.sh d, ρ) := id rfl
@[simp] theorem s_fop2 (o : D → D → Option OutV) : fop2 o f g ρ = (f ρ).bind fun x => (g x.2).bind fun y => (dat y.2 x.1).bind fun da => (dat y.2 y.1).bind fun db => (o da db).map fun o => (rvOf o, y.2) := id rfl
@[simp] theorem s_fop1 (o : D → Option OutV) : fop1 o f ρ = (f ρ).bind fun x => (dat x.2 x.1).bind fun da => (o da).map fun o => (rvOf o, x.2) := id rfl
@[simp] theorem s_fopA (o : List D → Option OutV) : fopA o fs ρ = (fs ρ).bind fun x => (datA x.2 x.1).bind fun ds => (o ds).map fun o => (rvOf o, x.2) := id rfl
@[simp] theorem s_fnil : fnil ρ = some ([], ρ) := id rfl
@[simp] theorem s_fcons : fcons f fs ρ = (f ρ).bind fun x => (fs x.2).bind fun y => some (x.1 :: y.1, y.2) := id rfl
@[simp] theorem s_ftup : ftup fs ρ = (fs ρ).bind fun x => (datA x.2 x.1).bind fun ds => (relA x.2 x.1).map fun ρ2 => (.sh (.tuple ds), ρ2) := id rfl
@[simp] theorem s_flst : flst fs ρ = (fs ρ).bind fun x => (datA x.2 x.1).bind fun ds => (relA x.2 x.1).map fun ρ2 => (.fr (.list ds), ρ2) := id rfl
@[simp] theorem s_fnotT : fnotT c ρ = (c ρ).map fun x => (!x.1, x.2) := id rfl
@[simp] theorem s_fif : fif c f g ρ = (c ρ).bind fun x => if x.1 then f x.2 else g x.2 := id rfl
@[simp] theorem s_fseq : fseq s s2 ρ = (s ρ).bind fun o => match o with
  | .nx ρ1 => s2 ρ1
  | o => some o := id rfl
@[simp] theorem s_fskip : fskip ρ = some (.nx ρ) := id rfl
@[simp] theorem s_fdrop : fdrop f ρ = (f ρ).map fun x => .nx x.2 := id rfl
@[simp] theorem s_fret : fret f ρ = (f ρ).map fun x => .rt x.1 x.2 := id rfl
@[simp] theorem s_fifS : fifS c s s2 ρ = (c ρ).bind fun x => if x.1 then s x.2 else s2 x.2 := id rfl
@[simp] theorem s_fset (is : List Nat) : fset is fs ρ = (fs ρ).bind fun x => (datA x.2 x.1).bind fun ds => (relA x.2 x.1).bind fun ρ2 => (storeA is x.1 ds ρ2).map .nx := id rfl
@[simp] theorem s_f1 : f1 f ρ = (f ρ).map fun x => ([x.1], x.2) := id rfl
@[simp] theorem s_fasg (b : Fg) : fasg b f ρ = (f ρ).bind fun x => (dat x.2 x.1).bind fun d => (rel x.2 x.1).bind fun ρ2 => (b d ρ2).map .nx := id rfl
@[simp] theorem s_fcall (k : Option Nat) (F : FS) : fcall k F fs ρ = (fs ρ).bind fun x => (datA x.2 x.1).bind fun ds => (F ds).bind fun r => fcallEnd k x.1 x.2 r := id rfl
@[simp] theorem s_fcallEnd0 (rs : List RV) (r : FR) : fcallEnd none rs ρ r = (if atom r.d then some ρ else relA ρ rs).bind fun ρ2 => some (frOf r, ρ2) := by
  simp [fcallEnd, lone, setNo]
@[simp] theorem s_fslice (lo hi : Fo) : fslice f lo hi ρ = (f ρ).bind fun x => (lo x.2).bind fun y => (hi y.2).bind fun z => (dat z.2 x.1).bind fun d => (gSl d y.1 z.1).map fun o => (rvOf o, z.2) := id rfl
@[simp] theorem s_ffor (gi : Fi) (b : Fg) : ffor gi b s ρ = (gi ρ).bind fun x => forD b s x.1 x.2 := id rfl
@[simp] theorem s_flc (own : List Nat) (gi : Fi) (b : Fg) : flc own gi b c f ρ = (gi ρ).bind fun x => if noOwn x.2 own then (lcD own b c f x.1 x.2 []).map fun y => (.fr (.list y.1), y.2) else none := id rfl
@[simp] theorem s_bcons (b : Fg) (bs : Fgs) (ds : List D) : bcons b bs (d :: ds) ρ = (b d ρ).bind fun ρ1 => bs ds ρ1 := id rfl
@[simp] theorem s_btupT (n : Nat) (bs : Fgs) (ds : List D) : btup n bs (.tuple ds) ρ = if ds.length = n then bs ds ρ else none := id rfl
@[simp] theorem s_fchain (o o' : D → D → Option OutV) : fchain o o' f g h ρ = (f ρ).bind fun x => (g x.2).bind fun y => (dat y.2 x.1).bind fun da => (dat y.2 y.1).bind fun db => (o da db).bind fun q => match q with
  | .it (.bool true) => (h y.2).bind fun z => (dat z.2 y.1).bind fun db => (dat z.2 z.1).bind fun dc => (o' db dc).map fun q => (rvOf q, z.2)
  | .it (.bool false) => some (.sh (.bool false), y.2)
  | _ => none := id rfl
end
@[simp] theorem rvOf_it (d : D) : rvOf (.it d) = .sh d := rfl
@[simp] theorem rvOf_nl (d : List D) : rvOf (.nl d) = .fr (.list d) := rfl
@[simp] theorem rvOf_nt (d : List D) : rvOf (.nt d) = .sh (.tuple d) := rfl
theorem toF_of {np n : Nat} {bx : Option Nat} {f : Fst} {ds : List D} {o : Out} {r : FR} (h : f (en0 bx n ds) = some o) (hr : retO bx o = some r) (hl : ds.length = np := by rfl) : toF np n bx f ds = some r := by
  unfold toF
  rw [if_pos hl, h, Option.bind_some, hr]
theorem fseq_nx {s s2 : Fst} {ρ ρ1 : En} {o : Out} (h : s ρ = some (.nx ρ1)) (h2 : s2 ρ1 = some o) : fseq s s2 ρ = some o := by
  rw [s_fseq, h, Option.bind_some]; exact h2
theorem fret_of {f : Fe} {ρ ρ1 : En} {r : RV} (h : f ρ = some (r, ρ1)) : fret f ρ = some (.rt r ρ1) := by
  rw [s_fret, h, Option.map_some]
theorem ffor_of {gi : Fi} {b : Fg} {s : Fst} {ρ ρ1 : En} {ds : List D} {o : Out} (h : gi ρ = some (ds, ρ1)) (h2 : forD b s ds ρ1 = some o) : ffor gi b s ρ = some o := by
  rw [s_ffor, h, Option.bind_some]; exact h2
theorem flc_of {own : List Nat} {gi : Fi} {b : Fg} {t : Ft} {elt : Fe} {ρ ρ1 ρ2 : En} {ds es : List D} (h : gi ρ = some (ds, ρ1)) (h2 : lcD own b t elt ds ρ1 [] = some (es, ρ2)) (hn : noOwn ρ1 own = true := by rfl) : flc own gi b t elt ρ = some (.fr (.list es), ρ2) := by
  rw [s_flc, h, Option.bind_some]
  simp only [hn, if_true, h2, Option.map_some]
theorem atI_nat {α : Type} (xs : List α) (i : Nat) : atI xs (i : Int) = xs[i]? := by
  unfold atI ixN
  rw [if_pos (by omega)]
  by_cases h : i < xs.length
  · rw [if_pos (by omega), Option.bind_some, Int.toNat_natCast]
  · rw [if_neg (by omega), Option.bind_none, List.getElem?_eq_none (by omega)]
theorem atI_int {α : Type} (xs : List α) {i : Int} {n : Nat} (h : i = (n : Int)) : atI xs i = xs[n]? := by rw [h, atI_nat]
theorem ixN_int {n i : Nat} {k : Int} (h : k = (i : Int)) (hi : i < n) : ixN n k = some i := by
  subst h
  unfold ixN
  rw [if_pos (by omega), if_pos (by omega), Int.toNat_natCast]
end Sh
set_option Elab.async false
set_option linter.all false
set_option maxRecDepth 100000
set_option maxHeartbeats 4000000
namespace Sh
open PySem PySem.Spec PyProof.Rows L2 DL
abbrev N (n : Nat) : D := PyData.int (n : Int)
abbrev sh (d : D) : Option (Fl × D) := some (Fl.sh, d)
abbrev ow (d : D) : Option (Fl × D) := some (Fl.ow, d)
abbrev bxs (d : D) : Option (Fl × D) := some (Fl.bx, d)
def Ex (f : Fe) (ρ : En) (Q : RV → En → Prop) : Prop := ∃ r ρ', f ρ = some (r, ρ') ∧ Q r ρ'
def ExA (f : Fa) (ρ : En) (Q : List RV → En → Prop) : Prop := ∃ r ρ', f ρ = some (r, ρ') ∧ Q r ρ'
def ExT (f : Ft) (ρ : En) (Q : Bool → En → Prop) : Prop := ∃ r ρ', f ρ = some (r, ρ') ∧ Q r ρ'
def ExI (f : Fi) (ρ : En) (Q : List D → En → Prop) : Prop := ∃ r ρ', f ρ = some (r, ρ') ∧ Q r ρ'
def ExO (f : Fo) (ρ : En) (Q : Option Int → En → Prop) : Prop := ∃ r ρ', f ρ = some (r, ρ') ∧ Q r ρ'
def ExG (f : Fg) (d : D) (ρ : En) (Q : En → Prop) : Prop := ∃ ρ', f d ρ = some ρ' ∧ Q ρ'
def ExGs (f : Fgs) (d : List D) (ρ : En) (Q : En → Prop) : Prop := ∃ ρ', f d ρ = some ρ' ∧ Q ρ'
def Kn (N : En → Prop) (R : RV → En → Prop) (B C : En → Prop) : Out → Prop
  | .nx ρ => N ρ
  | .rt r ρ => R r ρ
  | .bk ρ => B ρ
  | .ct ρ => C ρ
def St (s : Fst) (ρ : En) (N : En → Prop) (R : RV → En → Prop) (B C : En → Prop) : Prop := ∃ o, s ρ = some o ∧ Kn N R B C o
def Cl (F : FS) (ds : List D) (Q : FR → Prop) : Prop := ∃ r, F ds = some r ∧ Q r
theorem Cl.eq {F : FS} {ds : List D} {x : FR} (h : Cl F ds fun r => r = x) : F ds = some x := by
  obtain ⟨r, e, rfl⟩ := h; exact e
section
variable {ρ : En} {f g h : Fe} {fs : Fa} {c c2 : Ft} {s s2 : Fst} {d : D} {Q : RV → En → Prop} {QA : List RV → En → Prop} {QT : Bool → En → Prop} {QI : List D → En → Prop} {QO : Option Int → En → Prop} {QG : En → Prop}
  {Nx : En → Prop} {R : RV → En → Prop} {B C : En → Prop}
theorem ex_var_sh {i : Nat} (e : ρ[i]? = some (some (.sh, d))) (k : Q (.sh d) ρ) : Ex (fvar i) ρ Q := ⟨_, _, by unfold fvar; rw [e], k⟩
theorem ex_var_al {i : Nat} {fl : Fl} (e : ρ[i]? = some (some (fl, d))) (hf : fl ≠ .sh) (k : Q (.al i) ρ) : Ex (fvar i) ρ Q := ⟨_, _, by
  unfold fvar; rw [e]
  cases fl with
  | sh => exact absurd rfl hf
  | ow => rfl
  | bx => rfl, k⟩
theorem ex_fc (k : Q (.sh d) ρ) : Ex (fc d) ρ Q := ⟨_, _, rfl, k⟩
theorem ex_fc0 (k : Q (.sh (N 0)) ρ) : Ex (fc (.int 0)) ρ Q := ⟨_, _, rfl, k⟩
theorem ex_fc1 (k : Q (.sh (N 1)) ρ) : Ex (fc (.int 1)) ρ Q := ⟨_, _, rfl, k⟩
theorem ex_fc2 (k : Q (.sh (N 2)) ρ) : Ex (fc (.int 2)) ρ Q := ⟨_, _, rfl, k⟩
theorem ex_fc3 (k : Q (.sh (N 3)) ρ) : Ex (fc (.int 3)) ρ Q := ⟨_, _, rfl, k⟩
theorem ex_fc4 (k : Q (.sh (N 4)) ρ) : Ex (fc (.int 4)) ρ Q := ⟨_, _, rfl, k⟩
theorem ex_fc7 (k : Q (.sh (N 7)) ρ) : Ex (fc (.int 7)) ρ Q := ⟨_, _, rfl, k⟩
theorem ex_fc9 (k : Q (.sh (N 9)) ρ) : Ex (fc (.int 9)) ρ Q := ⟨_, _, rfl, k⟩
theorem ex_fc10 (k : Q (.sh (N 10)) ρ) : Ex (fc (.int 10)) ρ Q := ⟨_, _, rfl, k⟩
theorem ex_fc12 (k : Q (.sh (N 12)) ρ) : Ex (fc (.int 12)) ρ Q := ⟨_, _, rfl, k⟩
def Op2Q (o : D → D → Option OutV) (ρ : En) (r1 r2 : RV) (K : RV → Prop) : Prop := ∃ da db out, dat ρ r1 = some da ∧ dat ρ r2 = some db ∧ o da db = some out ∧ K (rvOf out)
theorem ex_op2 {o : D → D → Option OutV} (k : Ex f ρ fun r1 ρ1 => Ex g ρ1 fun r2 ρ2 => Op2Q o ρ2 r1 r2 fun r => Q r ρ2) : Ex (fop2 o f g) ρ Q := by
  obtain ⟨r1, ρ1, e1, r2, ρ2, e2, da, db, out, e3, e4, e5, k⟩ := k
  exact ⟨_, _, by simp only [s_fop2, e1, Option.bind_some, e2, e3, e4, e5, Option.map_some], k⟩
theorem op2_it {o : D → D → Option OutV} {r1 r2 : RV} {K : RV → Prop} {da db d : D} (e1 : dat ρ r1 = some da) (e2 : dat ρ r2 = some db) (e3 : o da db = some (.it d)) (k : K (.sh d)) : Op2Q o ρ r1 r2 K := ⟨_, _, _, e1, e2, e3, k⟩
theorem op2_nl {o : D → D → Option OutV} {r1 r2 : RV} {K : RV → Prop} {da db : D} {ds : List D} (e1 : dat ρ r1 = some da) (e2 : dat ρ r2 = some db) (e3 : o da db = some (.nl ds)) (k : K (.fr (.list ds))) : Op2Q o ρ r1 r2 K := ⟨_, _, _, e1, e2, e3, k⟩
def Op1Q (o : D → Option OutV) (ρ : En) (r1 : RV) (K : RV → Prop) : Prop := ∃ da out, dat ρ r1 = some da ∧ o da = some out ∧ K (rvOf out)
theorem ex_op1 {o : D → Option OutV} (k : Ex f ρ fun r1 ρ1 => Op1Q o ρ1 r1 fun r => Q r ρ1) : Ex (fop1 o f) ρ Q := by
  obtain ⟨r1, ρ1, e1, da, out, e3, e5, k⟩ := k
  exact ⟨_, _, by simp only [s_fop1, e1, Option.bind_some, e3, e5, Option.map_some], k⟩
theorem op1_it {o : D → Option OutV} {r1 : RV} {K : RV → Prop} {da d : D} (e1 : dat ρ r1 = some da) (e3 : o da = some (.it d)) (k : K (.sh d)) : Op1Q o ρ r1 K := ⟨_, _, e1, e3, k⟩
def OpAQ (o : List D → Option OutV) (ρ : En) (rs : List RV) (K : RV → Prop) : Prop := ∃ ds out, datA ρ rs = some ds ∧ o ds = some out ∧ K (rvOf out)
theorem ex_opA {o : List D → Option OutV} (k : ExA fs ρ fun rs ρ1 => OpAQ o ρ1 rs fun r => Q r ρ1) : Ex (fopA o fs) ρ Q := by
  obtain ⟨r1, ρ1, e1, da, out, e3, e5, k⟩ := k
  exact ⟨_, _, by simp only [s_fopA, e1, Option.bind_some, e3, e5, Option.map_some], k⟩
theorem opA_it {o : List D → Option OutV} {rs : List RV} {K : RV → Prop} {da : List D} {d : D} (e1 : datA ρ rs = some da) (e3 : o da = some (.it d)) (k : K (.sh d)) : OpAQ o ρ rs K := ⟨_, _, e1, e3, k⟩
theorem opA_nl {o : List D → Option OutV} {rs : List RV} {K : RV → Prop} {da : List D} {ds : List D} (e1 : datA ρ rs = some da) (e3 : o da = some (.nl ds)) (k : K (.fr (.list ds))) : OpAQ o ρ rs K := ⟨_, _, e1, e3, k⟩
theorem opA_nt {o : List D → Option OutV} {rs : List RV} {K : RV → Prop} {da : List D} {ds : List D} (e1 : datA ρ rs = some da) (e3 : o da = some (.nt ds)) (k : K (.sh (.tuple ds))) : OpAQ o ρ rs K := ⟨_, _, e1, e3, k⟩
theorem exa_nil (k : QA [] ρ) : ExA fnil ρ QA := ⟨_, _, rfl, k⟩
theorem exa_cons (k : Ex f ρ fun r ρ1 => ExA fs ρ1 fun rs ρ2 => QA (r :: rs) ρ2) : ExA (fcons f fs) ρ QA := by
  obtain ⟨r1, ρ1, e1, rs, ρ2, e2, k⟩ := k
  exact ⟨_, _, by simp only [s_fcons, e1, Option.bind_some, e2], k⟩
theorem exa_f1 (k : Ex f ρ fun r ρ1 => QA [r] ρ1) : ExA (f1 f) ρ QA := by
  obtain ⟨r1, ρ1, e1, k⟩ := k
  exact ⟨_, _, by simp only [s_f1, e1, Option.map_some], k⟩
def SeqQ (ρ : En) (rs : List RV) (K : List D → En → Prop) : Prop := ∃ ds ρ2, datA ρ rs = some ds ∧ relA ρ rs = some ρ2 ∧ K ds ρ2
theorem seqQ {ρ2 : En} {rs : List RV} {ds : List D} {K : List D → En → Prop} (e1 : datA ρ rs = some ds) (e2 : relA ρ rs = some ρ2) (k : K ds ρ2) : SeqQ ρ rs K := ⟨_, _, e1, e2, k⟩
theorem ex_tup (k : ExA fs ρ fun rs ρ1 => SeqQ ρ1 rs fun ds ρ2 => Q (.sh (.tuple ds)) ρ2) : Ex (ftup fs) ρ Q := by
  obtain ⟨rs, ρ1, e1, ds, ρ2, e2, e3, k⟩ := k
  exact ⟨_, _, by simp only [s_ftup, e1, Option.bind_some, e2, e3, Option.map_some], k⟩
theorem ex_lst (k : ExA fs ρ fun rs ρ1 => SeqQ ρ1 rs fun ds ρ2 => Q (.fr (.list ds)) ρ2) : Ex (flst fs) ρ Q := by
  obtain ⟨rs, ρ1, e1, ds, ρ2, e2, e3, k⟩ := k
  exact ⟨_, _, by simp only [s_flst, e1, Option.bind_some, e2, e3, Option.map_some], k⟩
def BoolQ (r : RV) (K : Bool → Prop) : Prop := ∃ b, r = .sh (.bool b) ∧ K b
theorem boolQ {b : Bool} {K : Bool → Prop} (k : K b) : BoolQ (.sh (.bool b)) K := ⟨b, rfl, k⟩
theorem ext_bool (k : Ex f ρ fun r ρ1 => BoolQ r fun b => QT b ρ1) : ExT (fbool f) ρ QT := by
  obtain ⟨r, ρ1, e1, b, rfl, k⟩ := k
  exact ⟨_, _, by simp only [fbool, e1, Option.bind_some], k⟩
theorem ext_true (k : QT true ρ) : ExT ftrue ρ QT := ⟨_, _, rfl, k⟩
/-- two ways -/
def Two (t : Bool) (A B : Prop) : Prop := (t = true → A) ∧ (t = false → B)
theorem two_t {t : Bool} {A B : Prop} (e : t = true) (k : A) : Two t A B := ⟨fun _ => k, fun h => (by rw [e] at h; cases h)⟩
theorem two_f {t : Bool} {A B : Prop} (e : t = false) (k : B) : Two t A B := ⟨fun h => (by rw [e] at h; cases h), fun _ => k⟩
theorem two_d {P : Prop} {i : Decidable P} {A B : Prop} (ka : P → A) (kb : ¬ P → B) : Two (decide P) A B := ⟨fun h => ka (of_decide_eq_true h), fun h => kb (of_decide_eq_false h)⟩
theorem two_n {P : Prop} {i : Decidable P} {A B : Prop} (ka : ¬ P → A) (kb : P → B) : Two (!decide P) A B := ⟨fun h => ka (by simpa using h), fun h => kb (by simpa using h)⟩
theorem ex_if (k : ExT c ρ fun t ρ1 => Two t (Ex f ρ1 Q) (Ex g ρ1 Q)) : Ex (fif c f g) ρ Q := by
  obtain ⟨t, ρ1, e1, k⟩ := k
  cases t with
  | true =>
    obtain ⟨r, ρ2, e2, k⟩ := k.1 rfl
    exact ⟨_, _, by simp only [s_fif, e1, Option.bind_some, if_true]; exact e2, k⟩
  | false =>
    obtain ⟨r, ρ2, e2, k⟩ := k.2 rfl
    exact ⟨_, _, by simp only [s_fif, e1, Option.bind_some, Bool.false_eq_true, if_false]; exact e2, k⟩
def CallQ (F : FS) (ρ : En) (rs : List RV) (K : RV → En → Prop) : Prop := ∃ ds r ρ2, datA ρ rs = some ds ∧ F ds = some r ∧ (if atom r.d then some ρ else relA ρ rs) = some ρ2 ∧ K (frOf r) ρ2
theorem ex_call {F : FS} (k : ExA fs ρ fun rs ρ1 => CallQ F ρ1 rs Q) : Ex (fcall none F fs) ρ Q := by
  obtain ⟨rs, ρ1, e1, ds, r, ρ2, e2, e3, e4, k⟩ := k
  exact ⟨_, _, by simp only [s_fcall, e1, Option.bind_some, e2, e3, s_fcallEnd0, e4], k⟩
theorem callQ_sh {F : FS} {rs : List RV} {K : RV → En → Prop} {ds es : List D} {ρ2 : En} (e1 : datA ρ rs = some ds) (e2 : F ds = some ⟨false, d, es⟩) (e3 : (if atom d then some ρ else relA ρ rs) = some ρ2) (k : K (.sh d) ρ2) : CallQ F ρ rs K := ⟨_, _, _, e1, e2, e3, k⟩
theorem callQ_fr {F : FS} {rs : List RV} {K : RV → En → Prop} {ds es : List D} {ρ2 : En} (e1 : datA ρ rs = some ds) (e2 : F ds = some ⟨true, d, es⟩) (e3 : (if atom d then some ρ else relA ρ rs) = some ρ2) (k : K (.fr d) ρ2) : CallQ F ρ rs K := ⟨_, _, _, e1, e2, e3, k⟩
/-- a call that draws: the source is at the slot j -/
theorem ex_callB {F : FS} (k : ExA fs ρ fun rs ρ1 => ∃ ds r q, datA ρ1 rs = some ds ∧ F ds = some r ∧ fcallEnd (some 0) rs ρ1 r = some q ∧ Q q.1 q.2) : Ex (fcall (some 0) F fs) ρ Q := by
  obtain ⟨rs, ρ1, e1, ds, r, q, e2, e3, e4, k⟩ := k
  exact ⟨_, _, by simp only [s_fcall, e1, Option.bind_some, e2, e3, e4], k⟩
def SqQ (ρ : En) (r : RV) (K : List D → En → Prop) : Prop := ∃ ds ρ2, (dat ρ r = some (.list ds) ∨ dat ρ r = some (.tuple ds)) ∧ rel ρ r = some ρ2 ∧ K ds ρ2
theorem sqQ_l {ρ2 : En} {r : RV} {ds : List D} {K : List D → En → Prop} (e1 : dat ρ r = some (.list ds)) (e2 : rel ρ r = some ρ2) (k : K ds ρ2) : SqQ ρ r K := ⟨_, _, .inl e1, e2, k⟩
theorem sqQ_t {ρ2 : En} {r : RV} {ds : List D} {K : List D → En → Prop} (e1 : dat ρ r = some (.tuple ds)) (e2 : rel ρ r = some ρ2) (k : K ds ρ2) : SqQ ρ r K := ⟨_, _, .inr e1, e2, k⟩
theorem exi_seq (k : Ex f ρ fun r ρ1 => SqQ ρ1 r QI) : ExI (fiseq f) ρ QI := by
  obtain ⟨r, ρ1, e1, ds, ρ2, e2, e3, k⟩ := k
  rcases e2 with e2 | e2
  · exact ⟨_, _, by simp only [fiseq, e1, Option.bind_some, e2, e3], k⟩
  · exact ⟨_, _, by simp only [fiseq, e1, Option.bind_some, e2, e3], k⟩
def DatQ (ρ : En) (rs : List RV) (K : List D → Prop) : Prop := ∃ ds, datA ρ rs = some ds ∧ K ds
theorem datQ {rs : List RV} {ds : List D} {K : List D → Prop} (e1 : datA ρ rs = some ds) (k : K ds) : DatQ ρ rs K := ⟨_, e1, k⟩
def Rg1 (ds : List D) (K : List D → Prop) : Prop := ∃ j : Int, ds = [.int j] ∧ -(2 ^ 62) ≤ j ∧ j < 2 ^ 62 ∧ K (rgD 0 1 j.toNat)
theorem rgN (a n : Nat) : rgD (a : Int) 1 n = (List.range n).map fun i => N (a + i) := by
  unfold rgD
  apply List.map_congr_left
  intro i _
  show PyData.int ((a : Int) + (i : Int) * 1) = PyData.int ((a + i : Nat) : Int)
  congr 1; omega
theorem rg1 {n : Nat} {K : List D → Prop} (h : n < 2 ^ 40) (k : K ((List.range n).map N)) : Rg1 [N n] K := ⟨n, rfl, by omega, by omega, by
  have := rgN 0 n
  simp only [Nat.zero_add] at this
  rw [show (0 : Int) = ((0 : Nat) : Int) from rfl, Int.toNat_natCast, this]; exact k⟩
theorem exi_rng1 (k : ExA fs ρ fun rs ρ1 => DatQ ρ1 rs fun ds => Rg1 ds fun es => QI es ρ1) : ExI (firng1 fs) ρ QI := by
  obtain ⟨rs, ρ1, e1, ds, e2, j, rfl, h1, h2, k⟩ := k
  refine ⟨_, _, ?_, k⟩
  unfold firng1
  rw [e1, Option.bind_some, e2, Option.bind_some]
  show (if -(2 ^ 62) ≤ j ∧ j < 2 ^ 62 then some (rgD 0 1 j.toNat, ρ1) else none) = _
  rw [if_pos ⟨h1, h2⟩]
def Lr1 (ρ : En) (r : RV) (K : List D → Prop) : Prop := ∃ n, dat ρ r = some (N n) ∧ n ≤ 16777216 ∧ K ((List.range n).map N)
theorem lr1 {r : RV} {n : Nat} {K : List D → Prop} (e : dat ρ r = some (N n)) (h : n ≤ 16777216) (k : K ((List.range n).map N)) : Lr1 ρ r K := ⟨n, e, h, k⟩
theorem ex_lrg1 (k : Ex f ρ fun r ρ1 => Lr1 ρ1 r fun ds => Q (.fr (.list ds)) ρ1) : Ex (flrg1 f) ρ Q := by
  obtain ⟨r, ρ1, e1, n, e2, h, k⟩ := k
  refine ⟨_, _, ?_, k⟩
  have hc : -(2 ^ 62) ≤ (n : Int) ∧ (n : Int) ≤ 16777216 := by omega
  unfold flrg1
  rw [e1, Option.bind_some]
  simp only [e2]
  rw [if_pos hc, Int.toNat_natCast]
  have := rgN 0 n
  simp only [Nat.zero_add] at this
  rw [show (0 : Int) = ((0 : Nat) : Int) from rfl, this]
def Lr2 (ρ : En) (r r2 : RV) (K : List D → Prop) : Prop := ∃ a n, dat ρ r = some (N a) ∧ dat ρ r2 = some (N n) ∧ a ≤ 16777216 ∧ n ≤ 16777216 ∧ K ((List.range (n - a)).map fun i => N (a + i))
theorem lr2 {r r2 : RV} {a n : Nat} {K : List D → Prop} (e : dat ρ r = some (N a)) (e2 : dat ρ r2 = some (N n)) (h : a ≤ 16777216) (h2 : n ≤ 16777216) (k : K ((List.range (n - a)).map fun i => N (a + i))) : Lr2 ρ r r2 K := ⟨a, n, e, e2, h, h2, k⟩
theorem ex_lrg2 (k : Ex f ρ fun r ρ1 => Ex g ρ1 fun r2 ρ2 => Lr2 ρ2 r r2 fun ds => Q (.fr (.list ds)) ρ2) : Ex (flrg2 f g) ρ Q := by
  obtain ⟨r, ρ1, e1, r2, ρ2, e2, a, n, e3, e4, h1, h2, k⟩ := k
  refine ⟨_, _, ?_, k⟩
  have hc : 0 ≤ (a : Int) ∧ (a : Int) ≤ 16777216 ∧ -(2 ^ 62) ≤ (n : Int) ∧ (n : Int) ≤ 16777216 := by omega
  unfold flrg2
  rw [e1, Option.bind_some, e2, Option.bind_some]
  simp only [e3, e4]
  rw [if_pos hc, show ((n : Int) - (a : Int)).toNat = n - a by omega, rgN]
theorem exo_none (k : QO none ρ) : ExO fonone ρ QO := ⟨_, _, rfl, k⟩
def IntQ (ρ : En) (r : RV) (K : Int → Prop) : Prop := ∃ i, dat ρ r = some (.int i) ∧ K i
theorem intQ {r : RV} {i : Int} {K : Int → Prop} (e : dat ρ r = some (.int i)) (k : K i) : IntQ ρ r K := ⟨i, e, k⟩
theorem exo_some (k : Ex f ρ fun r ρ1 => IntQ ρ1 r fun i => QO (some i) ρ1) : ExO (fosome f) ρ QO := by
  obtain ⟨r, ρ1, e1, i, e2, k⟩ := k
  exact ⟨_, _, by simp only [fosome, e1, Option.bind_some, e2], k⟩
def SlQ (ρ : En) (r : RV) (lo hi : Option Int) (K : RV → Prop) : Prop := ∃ d out, dat ρ r = some d ∧ gSl d lo hi = some out ∧ K (rvOf out)
theorem ex_slice {lo hi : Fo} (k : Ex f ρ fun r ρ1 => ExO lo ρ1 fun l ρ2 => ExO hi ρ2 fun h ρ3 => SlQ ρ3 r l h fun r => Q r ρ3) : Ex (fslice f lo hi) ρ Q := by
  obtain ⟨r, ρ1, e1, l, ρ2, e2, h, ρ3, e3, d, out, e4, e5, k⟩ := k
  exact ⟨_, _, by simp only [s_fslice, e1, Option.bind_some, e2, e3, e4, e5, Option.map_some], k⟩
theorem exg_name {i : Nat} (k : QG (ρ.set i (some (.sh, d)))) : ExG (bname i) d ρ QG := ⟨_, rfl, k⟩
theorem exg_tupT {n : Nat} {bs : Fgs} {ds : List D} (e : ds.length = n) (k : ExGs bs ds ρ QG) : ExG (btup n bs) (.tuple ds) ρ QG := by
  obtain ⟨ρ', e1, k⟩ := k
  exact ⟨_, by rw [s_btupT, if_pos e]; exact e1, k⟩
theorem exgs_nil (k : QG ρ) : ExGs bnil [] ρ QG := ⟨_, rfl, k⟩
theorem exgs_cons {b : Fg} {bs : Fgs} {ds : List D} (k : ExG b d ρ fun ρ1 => ExGs bs ds ρ1 QG) : ExGs (bcons b bs) (d :: ds) ρ QG := by
  obtain ⟨ρ1, e1, ρ2, e2, k⟩ := k
  exact ⟨_, by rw [s_bcons, e1, Option.bind_some]; exact e2, k⟩
theorem st_seq (k : St s ρ (fun ρ1 => St s2 ρ1 Nx R B C) R B C) : St (fseq s s2) ρ Nx R B C := by
  obtain ⟨o, e1, k⟩ := k
  cases o with
  | nx ρ1 =>
    obtain ⟨o2, e2, k⟩ := k
    exact ⟨o2, by rw [s_fseq, e1, Option.bind_some]; exact e2, k⟩
  | rt r ρ1 => exact ⟨.rt r ρ1, by rw [s_fseq, e1, Option.bind_some], k⟩
  | bk ρ1 => exact ⟨.bk ρ1, by rw [s_fseq, e1, Option.bind_some], k⟩
  | ct ρ1 => exact ⟨.ct ρ1, by rw [s_fseq, e1, Option.bind_some], k⟩
theorem st_skip (k : Nx ρ) : St fskip ρ Nx R B C := ⟨_, rfl, k⟩
theorem st_drop (k : Ex f ρ fun _ ρ1 => Nx ρ1) : St (fdrop f) ρ Nx R B C := by
  obtain ⟨r, ρ1, e, k⟩ := k
  exact ⟨.nx ρ1, by rw [s_fdrop, e]; rfl, k⟩
theorem st_ret (k : Ex f ρ R) : St (fret f) ρ Nx R B C := by
  obtain ⟨r, ρ1, e, k⟩ := k
  exact ⟨.rt r ρ1, by rw [s_fret, e]; rfl, k⟩
theorem st_if (k : ExT c ρ fun t ρ1 => Two t (St s ρ1 Nx R B C) (St s2 ρ1 Nx R B C)) : St (fifS c s s2) ρ Nx R B C := by
  obtain ⟨t, ρ1, e1, k⟩ := k
  cases t with
  | true =>
    obtain ⟨o, e2, k⟩ := k.1 rfl
    exact ⟨o, by rw [s_fifS, e1, Option.bind_some]; exact e2, k⟩
  | false =>
    obtain ⟨o, e2, k⟩ := k.2 rfl
    exact ⟨o, by rw [s_fifS, e1, Option.bind_some]; exact e2, k⟩
def SetQ (is : List Nat) (ρ : En) (rs : List RV) (K : En → Prop) : Prop := ∃ ds ρ2 ρ3, datA ρ rs = some ds ∧ relA ρ rs = some ρ2 ∧ storeA is rs ds ρ2 = some ρ3 ∧ K ρ3
theorem setQ {is : List Nat} {rs : List RV} {ds : List D} {ρ2 ρ3 : En} {K : En → Prop} (e1 : datA ρ rs = some ds) (e2 : relA ρ rs = some ρ2) (e3 : storeA is rs ds ρ2 = some ρ3) (k : K ρ3) : SetQ is ρ rs K := ⟨_, _, _, e1, e2, e3, k⟩
theorem st_set {is : List Nat} (k : ExA fs ρ fun rs ρ1 => SetQ is ρ1 rs Nx) : St (fset is fs) ρ Nx R B C := by
  obtain ⟨rs, ρ1, e1, ds, ρ2, ρ3, e2, e3, e4, k⟩ := k
  exact ⟨.nx ρ3, by rw [s_fset, e1, Option.bind_some, e2, Option.bind_some, e3, Option.bind_some, e4]; rfl, k⟩
def AsgQ (b : Fg) (ρ : En) (r : RV) (K : En → Prop) : Prop := ∃ d ρ2, dat ρ r = some d ∧ rel ρ r = some ρ2 ∧ ExG b d ρ2 K
theorem asgQ {b : Fg} {r : RV} {ρ2 : En} {K : En → Prop} (e1 : dat ρ r = some d) (e2 : rel ρ r = some ρ2) (k : ExG b d ρ2 K) : AsgQ b ρ r K := ⟨_, _, e1, e2, k⟩
theorem st_asg {b : Fg} (k : Ex f ρ fun r ρ1 => AsgQ b ρ1 r Nx) : St (fasg b f) ρ Nx R B C := by
  obtain ⟨r, ρ1, e1, d, ρ2, e2, e3, ρ3, e4, k⟩ := k
  exact ⟨.nx ρ3, by rw [s_fasg, e1, Option.bind_some, e2, Option.bind_some, e3, Option.bind_some, e4]; rfl, k⟩
/-- methods that change a list -/
def MethQ (j : Nat) (g : List D → List D → Option (D × List D)) (ρ : En) (rs : List RV) (K : RV → En → Prop) : Prop := ∃ ds ρ2 fl es x, datA ρ rs = some ds ∧ relA ρ rs = some ρ2 ∧ ρ2[j]? = some (some (fl, .list es)) ∧ fl ≠ .sh ∧ g es ds = some x ∧ K (.sh x.1) (ρ2.set j (some (fl, .list x.2)))
theorem methQ {j : Nat} {g : List D → List D → Option (D × List D)} {rs : List RV} {K : RV → En → Prop} {ds es es' : List D} {ρ2 : En} {fl : Fl} (e1 : datA ρ rs = some ds) (e2 : relA ρ rs = some ρ2) (e3 : ρ2[j]? = some (some (fl, .list es))) (hf : fl ≠ .sh) (e4 : g es ds = some (d, es')) (k : K (.sh d) (ρ2.set j (some (fl, .list es')))) : MethQ j g ρ rs K :=
  ⟨_, _, _, _, _, e1, e2, e3, hf, e4, k⟩
theorem ex_meth {j : Nat} {g : List D → List D → Option (D × List D)} {fl0 : Fl} {es0 : List D} (e0 : ρ[j]? = some (some (fl0, .list es0))) (hf0 : fl0 ≠ .sh) (k : ExA fs ρ fun rs ρ1 => MethQ j g ρ1 rs Q) : Ex (fmeth j g fs) ρ Q := by
  obtain ⟨rs, ρ1, e1, ds, ρ2, fl, es, x, e2, e3, e4, hf, e5, k⟩ := k
  exact ⟨_, _, by
    unfold fmeth
    rw [e0]
    have : fmeth1 j g fs ρ = some (.sh x.1, ρ2.set j (some (fl, .list x.2))) := by
      unfold fmeth1
      rw [e1, Option.bind_some, e2, Option.bind_some, e3, Option.bind_some, e4]
      cases fl with
      | sh => exact absurd rfl hf
      | ow | bx =>
        show (g es ds).map _ = _
        rw [e5]; rfl
    cases fl0 with
    | sh => exact absurd rfl hf0
    | ow => exact this
    | bx => exact this, k⟩
def RetQ (bx : Option Nat) (ρ : En) (r : RV) (Q : FR → Prop) : Prop := ∃ x es, retD ρ r = some x ∧ bxOf bx ρ = some es ∧ Q ⟨x.1, x.2, es⟩
theorem retQ {bx : Option Nat} {r : RV} {fr : Bool} {es : List D} {Q : FR → Prop} (e1 : retD ρ r = some (fr, d)) (e2 : bxOf bx ρ = some es) (k : Q ⟨fr, d, es⟩) : RetQ bx ρ r Q := ⟨_, _, e1, e2, k⟩
theorem cl_toF {np n : Nat} {bx : Option Nat} {ds : List D} {Q : FR → Prop} {ρ0 : En} (e0 : en0 bx n ds = ρ0) (hl : ds.length = np) (k : St s ρ0 (fun ρ => RetQ bx ρ (.sh .none) Q) (fun r ρ => RetQ bx ρ r Q) (fun _ => False) fun _ => False) : Cl (toF np n bx s) ds Q := by
  subst e0
  obtain ⟨o, e, k⟩ := k
  have go : ∀ r, (retO bx o) = some r → Q r → Cl (toF np n bx s) ds Q := fun r e2 q => ⟨r, by unfold toF; rw [if_pos hl, e, Option.bind_some, e2], q⟩
  cases o with
  | nx ρ =>
    obtain ⟨x, es, e1, e2, k⟩ := k
    cases e1
    exact go _ (by simp only [retO, e2, Option.map_some]) k
  | rt r ρ =>
    obtain ⟨x, es, e1, e2, k⟩ := k
    exact go _ (by simp only [retO, e1, Option.bind_some, e2, Option.map_some]) k
  | bk ρ => exact k.elim
  | ct ρ => exact k.elim
end
end Sh
set_option Elab.async false
set_option linter.all false
set_option maxRecDepth 100000
set_option maxHeartbeats 4000000
namespace Sh
open PySem PySem.Spec PyProof.Rows L2 DL
def F_law_box : FS := toF 2 3 none (fseq (fset [2] (f1 (fif (fbool (fop2 gLt (fvar 1) (fopA gLen (fcons (fvar 0) fnil)))) (fop2 gIx (fvar 0) (fvar 1)) (fc (.int 0)))))
    (fret (flst (fcons (fop2 gMul (fopA gAbs (fcons (fvar 2) fnil)) (fopA gInt (fcons (fop2 gGe (fopA gAbs (fcons (fvar 2) fnil)) (fop2 gPow (fc (.int 10)) (fc (.int 18)))) fnil))) (fcons (fop2 gAdd (fop2 gAdd (fop2 gMod (fvar 2) (fc (.int 2305843009213693951))) (fop2 gMul (fc (.int 7919)) (fvar 1))) (fc (.int 41))) (fcons (fc (.int 0)) fnil))))))
def F_law_take : Nat → FS
  | 0 => fun _ => none
  | m + 1 => toF 2 4 (some 0) (fseq (fifS (fbool (fop2 gGt (fop2 gIx (fvar 0) (fc (.int 0))) (fc (.int 0)))) (fseq (fset [2] (f1 (fop2 gMod (fop2 gIx (fvar 0) (fc (.int 0))) (fvar 1))))
    (fseq (fasg (bsub 0 (fc (.int 0))) (fop2 gFdiv (fop2 gIx (fvar 0) (fc (.int 0))) (fvar 1)))
    (fret (fvar 2)))) fskip)
    (fseq (fifS (fbool (fop2 gGt (fvar 1) (fop2 gPow (fc (.int 10)) (fc (.int 7))))) (fret (fop2 gMod (fop2 gAdd (fcall (some 0) (F_law_take m) (fcons (fvar 0) (fcons (fop2 gPow (fc (.int 10)) (fc (.int 7))) fnil))) (fop2 gMul (fop2 gPow (fc (.int 10)) (fc (.int 7))) (fcall (some 0) (F_law_take m) (fcons (fvar 0) (fcons (fop2 gAdd (fop2 gFdiv (fop2 gSub (fvar 1) (fc (.int 1))) (fop2 gPow (fc (.int 10)) (fc (.int 7)))) (fc (.int 1))) fnil))))) (fvar 1))) fskip)
    (fseq (fasg (bsub 0 (fc (.int 2))) (fop2 gAdd (fop2 gIx (fvar 0) (fc (.int 2))) (fc (.int 1))))
    (fseq (fset [3] (f1 (fop2 gMod (fop2 gPow (fop2 gAdd (fop2 gIx (fvar 0) (fc (.int 1))) (fop2 gMul (fc (.int 39373)) (fop2 gIx (fvar 0) (fc (.int 2))))) (fc (.int 5))) (fc (.int 2147483647)))))
    (fret (fop2 gMod (fop2 gFdiv (fop2 gMod (fop2 gAdd (fop2 gMul (fvar 3) (fop2 gAdd (fop2 gMod (fvar 3) (fc (.int 40009))) (fc (.int 7)))) (fop2 gMul (fop2 gIx (fvar 0) (fc (.int 2))) (fc (.int 7919)))) (fc (.int 2147483629))) (fc (.int 64))) (fvar 1)))))))
def F_law_strewn : FS := toF 2 4 (some 0) (fseq (fset [2, 3] (fcons (fopA gList (fcons (fvar 1) fnil)) (fcons (flst fnil) fnil)))
    (fseq (whileD (fbool (fop2 gNe (fvar 2) (flst fnil))) (fdrop (fmeth 3 gAppend (fcons (fmeth 2 gPop (fcons (fcall (some 0) (F_law_take 3) (fcons (fvar 0) (fcons (fopA gLen (fcons (fvar 2) fnil)) fnil))) fnil)) fnil))) 1000000)
    (fret (fvar 3))))
def BoxOk (n : Nat) (bx : List D) : Prop := ∃ a b c : Int, bx = [.int a, .int b, .int c] ∧ 0 ≤ a ∧ 0 ≤ b ∧ b < 2 ^ 62 ∧ 0 ≤ c ∧ c ≤ n
theorem BoxOk.mono {n m : Nat} {bx : List D} (h : BoxOk n bx) (hm : n ≤ m) : BoxOk m bx := by
  obtain ⟨a, b, c, e, h1, h2, h3, h4, h5⟩ := h
  exact ⟨a, b, c, e, h1, h2, h3, h4, by omega⟩
theorem BoxOk.atoms {n : Nat} {bx : List D} (h : BoxOk n bx) : bx.all atom = true := by
  obtain ⟨a, b, c, rfl, _⟩ := h
  rfl
theorem gPow10 (j : Int) (h0 : 0 ≤ j) (h1 : j ≤ 1000) : gPow (.int 10) (.int j) = some (.it (.int (10 ^ j.toNat))) := by
  have : CPow 10 j := ⟨h0, by omega, by decide⟩
  simp [gPow, this]
end Sh
set_option Elab.async false
set_option linter.all false
set_option maxRecDepth 100000
set_option maxHeartbeats 4000000
namespace Sh
open PySem PySem.Spec PyProof.Rows L2 DL
def pr (a b : Nat) : D := .tuple [.int (a : Int), .int (b : Int)]
def Ns (l : List Nat) : List D := l.map fun x : Nat => PyData.int (x : Int)
theorem Ns_get (l : List Nat) (i : Nat) : (Ns l)[i]? = l[i]?.map fun x : Nat => PyData.int (x : Int) := by simp [Ns]
@[simp] theorem Ns_len (l : List Nat) : (Ns l).length = l.length := by simp [Ns]
@[simp] theorem rgD_len (a c : Int) (n : Nat) : (rgD a c n).length = n := by simp [rgD]
end Sh
set_option Elab.async false
set_option linter.all false
set_option maxRecDepth 100000
set_option maxHeartbeats 4000000
namespace Sh
open PySem PySem.Spec PyProof.Rows L2 DL
theorem ns_lay : ∀ l : List Nat, PyData.canLayAll0 (Ns l) = true
  | [] => by simp [Ns, PyData.canLayAll0]
  | x :: l => by
    have := ns_lay l
    simp only [Ns] at this
    simp [Ns, PyData.canLayAll0, PyData.canLay0, this]
theorem ns_depth : ∀ l : List Nat, PyData.depthAll (Ns l) = 0
  | [] => by simp [Ns, PyData.depthAll]
  | x :: l => by
    have := ns_depth l
    simp only [Ns] at this
    simp [Ns, PyData.depthAll, PyData.depth, this]
end Sh
set_option Elab.async false
set_option linter.all false
set_option maxRecDepth 100000
set_option maxHeartbeats 4000000
namespace Sh
open PySem PySem.Spec PyProof.Rows L2 DL
/-- each index below n has another one, that has it -/
structure Joined (n : Nat) (p : List Nat) : Prop where
  len : p.length = n
  ok : ∀ x, x < n → ∃ y, p[x]? = some y ∧ y < n ∧ y ≠ x ∧ p[y]? = some x
theorem Ns_set (l : List Nat) (i x : Nat) : (Ns l).set i (.int (x : Int)) = Ns (l.set i x) := by
  simp [Ns, List.map_set]
theorem frep_of {fa fb : Fe} {ρ ρ1 ρ2 : En} {xs : List D} {n : Nat} {r : RV} (h : fa ρ = some (.fr (.list xs), ρ1)) (h2 : fb ρ1 = some (r, ρ2)) (hd : dat ρ2 r = some (.int (n : Int))) (hc : -(2 ^ 63) ≤ (n : Int) ∧ (n : Int) < 2 ^ 63 ∧ xs.length * (n : Int).toNat ≤ 16777216) : frep fa fb ρ = some (.fr (.list (List.replicate n xs).flatten), ρ2) := by
  unfold frep
  rw [h, Option.bind_some, h2, Option.bind_some]
  dsimp only
  rw [hd, Option.bind_some]
  dsimp only
  rw [if_pos hc, Int.toNat_natCast]
end Sh
set_option Elab.async false
set_option linter.all false
set_option maxRecDepth 100000
set_option maxHeartbeats 4000000
namespace Sh
open PySem PySem.Spec PyProof.Rows L2 DL
def Is (l : List Int) : List D := l.map .int
@[simp] theorem Is_len (l : List Int) : (Is l).length = l.length := by simp [Is]
theorem Is_get (l : List Int) (i : Nat) : (Is l)[i]? = l[i]?.map .int := by simp [Is]
/-- a part of a law, asked of one source of draws: it holds and moves the source on by b at most -/
def PartOk (b : Nat) (R : FS) : Prop := ∀ (k : Nat) (bx : List D), BoxOk k bx → k + b < 2 ^ 40 → ∃ bx' : List D, R [.list bx] = some ⟨false, .bool true, bx'⟩ ∧ BoxOk (k + b) bx'
end Sh
set_option Elab.async false
set_option linter.all false
set_option maxRecDepth 100000
set_option maxHeartbeats 4000000
namespace Sh
open PySem PySem.Spec PyProof.Rows L2 DL
def F_people_of : FS := toF 1 1 none (fret (fop2 gFdiv (fopA gLen (fcons (fvar 0) fnil)) (fc (.int 2))))
def F_look_person : FS := toF 2 2 none (fifS (fnotT (fbool (fchain gLe gLt (fc (.int 0)) (fvar 1) (fvar 0)))) fnever fskip)
def F_look_call : FS := toF 2 3 none (ffor (fiseq (fvar 1)) (bname 2) (fdrop (fcall none F_look_person (fcons (fvar 0) (fcons (fvar 2) fnil)))))
def F_empty_sheet : FS := toF 1 1 none (fret (fopA gTuple (fcons (fop2 gAdd (flrg2 (fvar 0) (fop2 gMul (fc (.int 2)) (fvar 0))) (flrg1 (fvar 0))) fnil)))
def F_with_joins : FS := toF 2 5 none (fseq (fset [2] (f1 (fopA gList (fcons (fvar 0) fnil))))
    (fseq (ffor (fiseq (fvar 1)) (btup 2 (bcons (bname 3) (bcons (bname 4) bnil))) (fasg (btup 2 (bcons (bsub 2 (fvar 3)) (bcons (bsub 2 (fvar 4)) bnil))) (ftup (fcons (fvar 4) (fcons (fvar 3) fnil)))))
    (fret (fopA gTuple (fcons (fvar 2) fnil)))))
def F_added : FS := toF 2 5 none (fseq (fset [2] (f1 (fcall none F_people_of (fcons (fvar 0) fnil))))
    (fseq (fset [3, 4] (fcons (fop2 gAdd (fvar 2) (fop2 gIx (fvar 1) (fc (.int 0)))) (fcons (fop2 gAdd (fvar 2) (fop2 gIx (fvar 1) (fc (.int 1)))) fnil)))
    (fseq (fifS (fbool (fop2 gEq (fop2 gIx (fvar 0) (fvar 3)) (fvar 4))) (fret (fopA gTuple (fcons (fvar 0) fnil))) fskip)
    (fret (fcall none F_with_joins (fcons (fvar 0) (fcons (flst (fcons (ftup (fcons (fop2 gIx (fvar 0) (fvar 3)) (fcons (fop2 gIx (fvar 0) (fvar 4)) fnil))) (fcons (ftup (fcons (fvar 3) (fcons (fvar 4) fnil))) fnil))) fnil)))))))
def F_look_size : FS := toF 2 2 none (fifS (fbool (fop2 gNe (fvar 0) (fvar 1))) fnever fskip)
def F_lower_pairs : FS := toF 1 4 none (fseq (fset [1] (f1 (fcall none F_people_of (fcons (fvar 0) fnil))))
    (fret (flc [2, 3] (fien (fslice (fvar 0) (fosome (fvar 1)) fonone)) (btup 2 (bcons (bname 2) (bcons (bname 3) bnil))) (fbool (fop2 gLt (fvar 2) (fop2 gSub (fvar 3) (fvar 1)))) (ftup (fcons (fvar 2) (fcons (fop2 gSub (fvar 3) (fvar 1)) fnil))))))
def F_ends_from : FS := toF 3 5 none (fseq (fset [3] (f1 (fopA gLen (fcons (fvar 1) fnil))))
    (fseq (fset [4] (f1 (flst (fcons (fop2 gAdd (fvar 3) (fvar 2)) (fcons (fop2 gIx (fvar 0) (fop2 gAdd (fvar 3) (fvar 2))) fnil)))))
    (fseq (whileD (fbool (fop2 gLt (fop2 gIx (fvar 4) (fop1 gNeg (fc (.int 1)))) (fvar 3))) (fseq (fdrop (fmeth 4 gAppend (fcons (fop2 gIx (fvar 1) (fop2 gIx (fvar 4) (fop1 gNeg (fc (.int 1))))) fnil)))
    (fdrop (fmeth 4 gAppend (fcons (fop2 gIx (fvar 0) (fop2 gIx (fvar 4) (fop1 gNeg (fc (.int 1))))) fnil)))) 1000000)
    (fret (fvar 4)))))
def F_result_of : FS := toF 2 4 none (fseq (fset [2] (f1 (fopA gLen (fcons (fvar 1) fnil))))
    (fret (fopA gTuple (fcons (flc [3] (firng1 (fcons (fvar 2) fnil)) (bname 3) ftrue (fop2 gSub (fop2 gIx (fcall none F_ends_from (fcons (fvar 0) (fcons (fvar 1) (fcons (fvar 3) fnil)))) (fop1 gNeg (fc (.int 1)))) (fvar 2))) fnil))))
def gt (s : List Nat) (i : Nat) : Nat := s.getD i 0
theorem gt_some {s : List Nat} {i : Nat} (h : i < s.length) : s[i]? = some (gt s i) := by
  unfold gt
  rw [List.getD_eq_getElem?_getD, List.getElem?_eq_getElem h]; rfl
theorem gt_of {s : List Nat} {i x : Nat} (h : s[i]? = some x) : gt s i = x := by
  unfold gt
  rw [List.getD_eq_getElem?_getD, h]; rfl
theorem gt_set {s : List Nat} {i v : Nat} (j : Nat) (h : i < s.length) : gt (s.set i v) j = if j = i then v else gt s j := by
  unfold gt
  rw [List.getD_eq_getElem?_getD, List.getD_eq_getElem?_getD, List.getElem?_set]
  by_cases e : i = j
  · subst e; simp [h]
  · rw [if_neg e, if_neg (Ne.symm e)]
theorem Joined.lt {n : Nat} {p : List Nat} (h : Joined n p) {x : Nat} (hx : x < n) : gt p x < n := by
  obtain ⟨y, h1, h2, _⟩ := h.ok x hx
  rwa [gt_of h1]
theorem Joined.ne {n : Nat} {p : List Nat} (h : Joined n p) {x : Nat} (hx : x < n) : gt p x ≠ x := by
  obtain ⟨y, h1, h2, h3, _⟩ := h.ok x hx
  rwa [gt_of h1]
theorem Joined.gg {n : Nat} {p : List Nat} (h : Joined n p) {x : Nat} (hx : x < n) : gt p (gt p x) = x := by
  obtain ⟨y, h1, h2, h3, h4⟩ := h.ok x hx
  rw [gt_of h1, gt_of h4]
theorem Joined.mk' {n : Nat} {p : List Nat} (h0 : p.length = n) (h : ∀ x, x < n → gt p x < n ∧ gt p x ≠ x ∧ gt p (gt p x) = x) : Joined n p :=
  ⟨h0, fun x hx => ⟨gt p x, gt_some (by omega), (h x hx).1, (h x hx).2.1, by
    have := (h x hx).1
    rw [gt_some (by omega), (h x hx).2.2]⟩⟩
theorem Joined.inj {n : Nat} {p : List Nat} (h : Joined n p) {x y : Nat} (hx : x < n) (hy : y < n) (e : gt p x = gt p y) : x = y := by
  rw [← h.gg hx, ← h.gg hy, e]
/-- the sheet after a call -/
def addS (n : Nat) (s : List Nat) (a b : Nat) : List Nat :=
  if gt s (n + a) = n + b then s else (((s.set (gt s (n + a)) (gt s (n + b))).set (gt s (n + b)) (gt s (n + a))).set (n + a) (n + b)).set (n + b) (n + a)
theorem addS_len (n : Nat) (s : List Nat) (a b : Nat) : (addS n s a b).length = s.length := by
  unfold addS; split <;> simp
section
variable {n a b : Nat} {s : List Nat} (J : Joined (2 * n) s) (hab : a < b) (hb : b < n)
include J hab hb
theorem addS_get (e : Nat) : gt (addS n s a b) e = if e = n + b then n + a else if e = n + a then n + b else if gt s (n + a) = n + b then gt s e else if e = gt s (n + b) then gt s (n + a) else if e = gt s (n + a) then gt s (n + b) else gt s e := by
  have hl := J.len
  unfold addS
  by_cases h : gt s (n + a) = n + b
  · rw [if_pos h, if_pos h]
    split
    · next he => subst he; rw [← h, J.gg (by omega)]
    · split
      · next he => subst he; exact h
      · rfl
  · rw [if_neg h, if_neg h]
    have h1 := J.lt (x := n + a) (by omega)
    have h2 := J.lt (x := n + b) (by omega)
    rw [gt_set _ (by simp; omega), gt_set _ (by simp; omega), gt_set _ (by simp; omega), gt_set _ (by omega)]
theorem addS_joined : Joined (2 * n) (addS n s a b) := by
  refine Joined.mk' (by rw [addS_len, J.len]) fun x hx => ?_
  have h1 := J.lt (x := n + a) (by omega)
  have h2 := J.lt (x := n + b) (by omega)
  have h3 := J.lt hx
  have h4 := J.ne hx
  have h5 := J.gg hx
  have h6 := J.gg (x := n + a) (by omega)
  have h7 := J.gg (x := n + b) (by omega)
  have h8 := J.ne (x := n + a) (by omega)
  have h9 := J.ne (x := n + b) (by omega)
  have i1 := @Joined.inj _ _ J x (n + a) hx (by omega)
  have i2 := @Joined.inj _ _ J x (n + b) hx (by omega)
  have i3 := @Joined.inj _ _ J (n + a) (n + b) (by omega) (by omega)
  have E := addS_get J hab hb
  by_cases h : gt s (n + a) = n + b
  · have : addS n s a b = s := by unfold addS; rw [if_pos h]
    rw [this]; exact ⟨h3, h4, h5⟩
  have hY : gt s (n + b) ≠ n + a := fun e => by
    rw [e] at h7; exact h h7
  have hXY : gt s (n + a) ≠ gt s (n + b) := fun e => by have := i3 e; omega
  simp only [if_neg h] at E
  generalize hXd : gt s (n + a) = X at *
  generalize hYd : gt s (n + b) = Y at *
  by_cases c1 : x = n + b
  · subst c1
    rw [E (n + b), if_pos rfl, E (n + a), if_neg (by omega), if_pos rfl]
    omega
  by_cases c2 : x = n + a
  · subst c2
    rw [E (n + a), if_neg (by omega), if_pos rfl, E (n + b), if_pos rfl]
    omega
  by_cases c3 : x = Y
  · subst c3
    rw [E x, if_neg c1, if_neg c2, if_pos rfl, E X, if_neg h, if_neg h8, if_neg hXY, if_pos rfl]
    omega
  by_cases c4 : x = X
  · subst c4
    rw [E x, if_neg c1, if_neg c2, if_neg c3, if_pos rfl, E Y, if_neg h9, if_neg hY, if_pos rfl]
    omega
  rw [E x, if_neg c1, if_neg c2, if_neg c3, if_neg c4, E (gt s x)]
  have d1 : gt s x ≠ n + b := fun e => c3 (by rw [e, hYd] at h5; exact h5.symm)
  have d2 : gt s x ≠ n + a := fun e => c4 (by rw [e, hXd] at h5; exact h5.symm)
  have d3 : gt s x ≠ Y := fun e => c1 (i2 e)
  have d4 : gt s x ≠ X := fun e => c2 (i1 e)
  rw [if_neg d1, if_neg d2, if_neg d3, if_neg d4]
  exact ⟨h3, h4, h5⟩
end
end Sh
set_option Elab.async false
set_option linter.all false
set_option maxRecDepth 100000
set_option maxHeartbeats 4000000
namespace Sh
open PySem PySem.Spec PyProof.Rows L2 DL
theorem cutN_lo (xs : List D) (m : Nat) : DL.cutD xs none (some (m : Int)) = xs.take m := by
  unfold DL.cutD
  rw [HT.sIx_nat]
  show ((xs.drop 0).take (min m xs.length - 0)) = _
  rw [List.drop_zero, Nat.sub_zero]
  by_cases h : m ≤ xs.length
  · rw [Nat.min_eq_left h]
  · rw [Nat.min_eq_right (by omega), List.take_of_length_le (by omega), List.take_of_length_le (by omega)]
theorem cutN_hi (xs : List D) (m : Nat) : DL.cutD xs (some (m : Int)) none = xs.drop m := by
  unfold DL.cutD
  rw [HT.sIx_nat]
  show ((xs.drop (min m xs.length)).take (xs.length - min m xs.length)) = _
  by_cases h : m ≤ xs.length
  · rw [Nat.min_eq_left h, List.take_of_length_le (by simp)]
  · rw [Nat.min_eq_right (by omega), List.drop_eq_nil_of_le (by omega), List.drop_eq_nil_of_le (by omega), List.take_nil]
theorem slT_lo (s : List Nat) (m : Nat) : ∃ o, gSl (.tuple (Ns s)) none (some (m : Int)) = some o ∧ rvOf o = .sh (.tuple (Ns (s.take m))) := by
  have e : Ns (s.take m) = (Ns s).take m := by simp [Ns]
  have q : gSl (.tuple (Ns s)) none (some (m : Int)) = if HT.sIx (Ns s).length 0 none = 0 ∧ HT.sIx (Ns s).length (Ns s).length (some (m : Int)) = (Ns s).length then some (.it (.tuple (Ns s))) else some (.nt (DL.cutD (Ns s) none (some (m : Int)))) := rfl
  rw [q, HT.sIx_nat, cutN_lo, e]
  split
  · next h =>
    refine ⟨_, rfl, ?_⟩
    rw [rvOf_it, List.take_of_length_le (by have := h.2; omega)]
  · exact ⟨_, rfl, rfl⟩
theorem slT_hi (s : List Nat) (m : Nat) : ∃ o, gSl (.tuple (Ns s)) (some (m : Int)) none = some o ∧ rvOf o = .sh (.tuple (Ns (s.drop m))) := by
  have e : Ns (s.drop m) = (Ns s).drop m := by simp [Ns]
  have q : gSl (.tuple (Ns s)) (some (m : Int)) none = if HT.sIx (Ns s).length 0 (some (m : Int)) = 0 ∧ HT.sIx (Ns s).length (Ns s).length none = (Ns s).length then some (.it (.tuple (Ns s))) else some (.nt (DL.cutD (Ns s) (some (m : Int)) none)) := rfl
  rw [q, HT.sIx_nat, cutN_hi, e]
  split
  · next h =>
    refine ⟨_, rfl, ?_⟩
    have h1 := h.1
    by_cases h0 : m = 0
    · subst h0; rfl
    · have : (Ns s).length = 0 := by omega
      rw [rvOf_it, List.drop_eq_nil_of_le (by omega), List.eq_nil_of_length_eq_zero this]
  · exact ⟨_, rfl, rfl⟩
section
variable {n : Nat} {s : List Nat} (hl : s.length = 2 * n) (hn : n ≤ 1000)
include hl hn
theorem people_spec : F_people_of [.tuple (Ns s)] = some ⟨false, .int (n : Int), []⟩ := by
  have hd : CDiv ((2 * n : Nat) : Int) 2 := ⟨by omega, by omega⟩
  have he : ((2 * n : Nat) : Int) / 2 = (n : Int) := by omega
  have q : gFdiv (.int ((2 * n : Nat) : Int)) (.int 2) = some (.it (.int (n : Int))) := by
    show (if CDiv ((2 * n : Nat) : Int) 2 ∨ CDivW ((2 * n : Nat) : Int) 2 then some (OutV.it (.int (((2 * n : Nat) : Int) / 2))) else none) = _
    rw [if_pos (.inl hd), he]
  have g : gLen [.tuple (Ns s)] = some (.it (.int ((2 * n : Nat) : Int))) := by
    show some (OutV.it (.int (((Ns s).length : Nat) : Int))) = _
    rw [Ns_len, hl]
  generalize ((2 * n : Nat) : Int) = w at q g
  refine toF_of (fret_of (r := .sh (.int (n : Int))) (ρ1 := [some (.sh, .tuple (Ns s))]) ?_) rfl
  rw [show en0 none 1 [.tuple (Ns s)] = [some (.sh, .tuple (Ns s))] from rfl]
  simp [fvar, dat, datA, g, q]
end
section
end
end Sh
set_option Elab.async false
set_option linter.all false
set_option maxRecDepth 100000
set_option maxHeartbeats 4000000
namespace Sh
open PySem PySem.Spec PyProof.Rows L2 DL
theorem atNs {s : List Nat} {i : Int} {k : Nat} (h : i = (k : Int)) (hk : k < s.length) : atI (Ns s) i = some (.int ((gt s k : Nat) : Int)) := by
  rw [atI_int _ h, Ns_get, gt_some hk]; rfl
theorem look_person_spec {n x : Nat} (h : x < n) : F_look_person [.int (n : Int), .int (x : Int)] = some ⟨false, .none, []⟩ := by
  have h1 : decide ((x : Int) < (n : Int)) = true := decide_eq_true (by omega)
  have h0 : decide ((0 : Int) ≤ (x : Int)) = true := decide_eq_true (by omega)
  simp [F_look_person, toF, en0, enA, fbool, fvar, dat, gIb, h0, h1, retO, bxOf, show ¬ n ≤ x by omega]
end Sh
set_option Elab.async false
set_option linter.all false
set_option maxRecDepth 100000
set_option maxHeartbeats 4000000
namespace Sh
open PySem PySem.Spec PyProof.Rows L2 DL
theorem gAdd_N {a b : Nat} : gAdd (N a) (N b) = some (.it (N (a + b))) := by
  show some (OutV.it (.int ((a : Int) + (b : Int)))) = _
  rw [← Int.natCast_add]
theorem gSub_N {a b : Nat} (h : b ≤ a) : gSub (N a) (N b) = some (.it (N (a - b))) := by
  show some (OutV.it (.int ((a : Int) - (b : Int)))) = _
  rw [← Int.ofNat_sub h]
theorem gMul_N {a b : Nat} (h : a < 2 ^ 64 ∨ b < 2 ^ 64) : gMul (N a) (N b) = some (.it (N (a * b))) := by
  show (if CMul (a : Int) (b : Int) ∨ CMulW (a : Int) (b : Int) then some (OutV.it (.int ((a : Int) * (b : Int)))) else none) = _
  rw [if_pos, ← Int.natCast_mul]
  left
  unfold CMul
  omega
theorem gFdiv_N {a b : Nat} (h : 0 < b) (h2 : b < 1073741824) : gFdiv (N a) (N b) = some (.it (N (a / b))) := by
  show (if CDiv (a : Int) (b : Int) ∨ CDivW (a : Int) (b : Int) then some (OutV.it (.int ((a : Int) / (b : Int)))) else none) = _
  rw [if_pos, ← Int.natCast_ediv]
  left
  unfold CDiv
  omega
theorem gMod_N {a b : Nat} (h : 0 < b) : gMod (N a) (N b) = some (.it (N (a % b))) := by
  show (if 0 < (b : Int) then some (OutV.it (.int ((a : Int) % (b : Int)))) else none) = _
  rw [if_pos (by omega), ← Int.natCast_emod]
theorem gPow_N {a b : Nat} (h : a < 2 ^ 60) (h2 : b ≤ 1000000) : gPow (N a) (N b) = some (.it (N (a ^ b))) := by
  show (if CPow (a : Int) (b : Int) then some (OutV.it (.int ((a : Int) ^ (b : Int).toNat))) else none) = _
  rw [if_pos, Int.toNat_natCast, ← Int.natCast_pow]
  unfold CPow
  omega
theorem gLt_N {a b : Nat} : gLt (N a) (N b) = some (.it (.bool (decide (a < b)))) := by
  show some (OutV.it (.bool (decide ((a : Int) < (b : Int))))) = _
  simp only [Int.ofNat_lt]
theorem gGt_N {a b : Nat} : gGt (N a) (N b) = some (.it (.bool (decide (b < a)))) := by
  show some (OutV.it (.bool (decide ((b : Int) < (a : Int))))) = _
  simp only [Int.ofNat_lt]
theorem gGe_N {a b : Nat} : gGe (N a) (N b) = some (.it (.bool (decide (b ≤ a)))) := by
  show some (OutV.it (.bool (decide ((b : Int) ≤ (a : Int))))) = _
  simp only [Int.ofNat_le]
theorem gEq_N {a b : Nat} : gEq (N a) (N b) = some (.it (.bool (decide (a = b)))) := by
  show some (OutV.it (.bool (decide ((a : Int) = (b : Int))))) = _
  simp only [Int.natCast_inj]
theorem gNe_N {a b : Nat} : gNe (N a) (N b) = some (.it (.bool (!decide (a = b)))) := by
  show some (OutV.it (.bool (!decide ((a : Int) = (b : Int))))) = _
  simp only [Int.natCast_inj]
theorem gNeg_N {a : Nat} : gNeg (N a) = some (.it (.int (-(a : Int)))) := rfl
theorem gIx_T {s : List Nat} {i : Nat} (h : i < s.length) : gIx (.tuple (Ns s)) (N i) = some (.it (N (gt s i))) := by
  show (atI (Ns s) _).map _ = _
  rw [atNs rfl h]; rfl
theorem gIx_L {s : List Nat} {i : Nat} (h : i < s.length) : gIx (.list (Ns s)) (N i) = some (.it (N (gt s i))) := by
  show (atI (Ns s) _).map _ = _
  rw [atNs rfl h]; rfl
theorem gIx_Lz {s : List Nat} (h : s ≠ []) : gIx (.list (Ns s)) (.int (-((1 : Nat) : Int))) = some (.it (N (gt s (s.length - 1)))) := by
  show (atI (Ns s) _).map _ = _
  have hp := List.length_pos_iff.mpr h
  have : atI (Ns s) (-((1 : Nat) : Int)) = some (.int ((gt s (s.length - 1) : Nat) : Int)) := by
    unfold atI ixN
    rw [if_neg (by omega), if_pos (by simp; omega)]
    rw [Option.bind_some, Ns_get, show (-((1 : Nat) : Int) + ((Ns s).length : Int)).toNat = s.length - 1 by simp; omega, gt_some (by omega)]; rfl
  rw [this]; rfl
theorem gIx_pr0 {a b : D} : gIx (.tuple [a, b]) (N 0) = some (.it a) := rfl
theorem gIx_pr1 {a b : D} : gIx (.tuple [a, b]) (N 1) = some (.it b) := rfl
theorem gLen_T {s : List Nat} : gLen [.tuple (Ns s)] = some (.it (N s.length)) := by simp [gLen]
theorem gLen_L {s : List Nat} : gLen [.list (Ns s)] = some (.it (N s.length)) := by simp [gLen]
theorem gLen_l {s : List D} : gLen [.list s] = some (.it (N s.length)) := rfl
theorem gList_L {s : List D} : gList [.list s] = some (.nl s) := rfl
theorem gList_T {s : List D} : gList [.tuple s] = some (.nl s) := rfl
theorem gTuple_L {s : List D} : gTuple [.list s] = some (.nt s) := rfl
theorem gTuple_T {s : List D} : gTuple [.tuple s] = some (.it (.tuple s)) := rfl
theorem gMin_N {a b : Nat} : gMin [N a, N b] = some (.it (N (min a b))) := by
  show some (OutV.it (.int (min (a : Int) (b : Int)))) = _
  rw [show min (a : Int) (b : Int) = ((min a b : Nat) : Int) by omega]
theorem gAdd_L {a b : List D} (h : a.length + b.length ≤ 16777216) : gAdd (.list a) (.list b) = some (.nl (a ++ b)) := by
  show (if a.length + b.length ≤ 16777216 then some (OutV.nl (a ++ b)) else none) = _
  rw [if_pos h]
theorem Ns_app (a b : List Nat) : Ns a ++ Ns b = Ns (a ++ b) := by simp [Ns]
theorem gAppend_N {s : List Nat} {x : Nat} (h : s.length < 16777216) : gAppend (Ns s) [N x] = some (.none, Ns (s ++ [x])) := by
  show (if (Ns s).length < 16777216 then some (PyData.none, Ns s ++ [N x]) else none) = _
  rw [if_pos (by simpa using h)]; simp [Ns]
def LcQ (own : List Nat) (b : Fg) (t : Ft) (elt : Fe) (ρ : En) (ds : List D) (K : List D → En → Prop) : Prop := noOwn ρ own = true ∧ ∃ es ρ', lcD own b t elt ds ρ [] = some (es, ρ') ∧ K es ρ'
theorem ex_lc {own : List Nat} {gi : Fi} {b : Fg} {t : Ft} {elt : Fe} {ρ : En} {Q : RV → En → Prop} (k : ExI gi ρ fun ds ρ1 => LcQ own b t elt ρ1 ds fun es ρ2 => Q (.fr (.list es)) ρ2) : Ex (flc own gi b t elt) ρ Q := by
  obtain ⟨ds, ρ1, e1, hn, es, ρ2, e2, k⟩ := k
  exact ⟨_, _, flc_of e1 e2 hn, k⟩
def Nrm (P : Prop) : Prop := P
theorem nrm {P : Prop} (h : P) : Nrm P := h
def BackQ (own : List Nat) (ρ ρ3 : En) : Prop := backE ρ ρ3 own = ρ
def TstQ (u v : Bool) (A B : Prop) : Prop := u = v ∧ Two u A B
theorem tstQ {u v : Bool} {A B : Prop} (e : u = v) (k : Two u A B) : TstQ u v A B := ⟨e, k⟩
def EltQ (own : List Nat) (ρ ρ4 : En) (r : RV) (d : D) : Prop := ∃ ρ5, dat ρ4 r = some d ∧ rel ρ4 r = some ρ5 ∧ backE ρ ρ5 own = ρ
theorem eltQ {own : List Nat} {ρ ρ4 ρ5 : En} {r : RV} {d : D} (e1 : dat ρ4 r = some d) (e2 : rel ρ4 r = some ρ5) (e3 : backE ρ ρ5 own = ρ) : EltQ own ρ ρ4 r d := ⟨_, e1, e2, e3⟩
/-- the state alone; items, tests and elements as functions -/
theorem lcQ {α : Type} {l : List α} {enc g : α → D} {p : α → Bool} {own : List Nat} {b : Fg} {t : Ft} {elt : Fe} {ρ : En} {ds : List D} {K : List D → En → Prop}
    (hn : noOwn ρ own = true) (hd : ds = l.map enc) (hl : l.length ≤ 16777216)
    (h : ∀ x ∈ l, ExG b (enc x) (wipeE ρ own) fun ρ2 => ExT t ρ2 fun u ρ3 => TstQ u (p x) (Ex elt ρ3 fun r ρ4 => EltQ own ρ ρ4 r (g x)) (BackQ own ρ ρ3))
    (k : Nrm (K ((l.filter p).map g) ρ)) : LcQ own b t elt ρ ds K := by
  subst hd
  refine ⟨hn, _, _, ?_, k⟩
  suffices H : ∀ (l : List α) (acc : List D), (∀ x ∈ l, ExG b (enc x) (wipeE ρ own) fun ρ2 => ExT t ρ2 fun u ρ3 => TstQ u (p x) (Ex elt ρ3 fun r ρ4 => EltQ own ρ ρ4 r (g x)) (BackQ own ρ ρ3)) → acc.length + l.length ≤ 16777216 →
      lcD own b t elt (l.map enc) ρ acc = some (acc ++ (l.filter p).map g, ρ) by
    have := H l [] h (by simpa using hl)
    simpa using this
  intro l
  induction l with
  | nil => intro acc _ _; simp [lcD]
  | cons x l ih =>
    intro acc h hl
    have hl' : acc.length + (l.length + 1) ≤ 16777216 := hl
    obtain ⟨ρ2, e1, u, ρ3, e2, hu, two⟩ := h x List.mem_cons_self
    subst hu
    have ih' := fun acc => ih acc (fun y hy => h y (List.mem_cons_of_mem _ hy))
    cases hp : p x with
    | true =>
      obtain ⟨r, ρ4, e3, ρ5, e4, e5, e6⟩ := two.1 hp
      rw [hp] at e2
      simp only [List.map_cons, lcD, e1, Option.bind_some, e2, if_true, e3, e4, e5, show acc.length < 16777216 by omega, e6, ih' (acc ++ [g x]) (by simp; omega), List.filter_cons, hp, List.append_assoc, List.singleton_append]
    | false =>
      rw [hp] at e2
      simp only [List.map_cons, lcD, e1, Option.bind_some, e2, Bool.false_eq_true, if_false, show backE ρ ρ3 own = ρ from two.2 hp, ih' acc (by omega), List.filter_cons, hp]
/-- no test -/
theorem filt_true {α : Type} (l : List α) : l.filter (fun _ => true) = l := List.filter_eq_self.mpr fun _ _ => rfl
section
variable {ρ : En} {r : RV} {K : RV → Prop}
theorem sl_Tlo {s : List Nat} {m : Nat} (e : dat ρ r = some (.tuple (Ns s))) (k : K (.sh (.tuple (Ns (s.take m))))) : SlQ ρ r none (some (m : Int)) K := by
  obtain ⟨o, e1, e2⟩ := slT_lo s m
  exact ⟨_, o, e, e1, by rw [e2]; exact k⟩
theorem sl_Thi {s : List Nat} {m : Nat} (e : dat ρ r = some (.tuple (Ns s))) (k : K (.sh (.tuple (Ns (s.drop m))))) : SlQ ρ r (some (m : Int)) none K := by
  obtain ⟨o, e1, e2⟩ := slT_hi s m
  exact ⟨_, o, e, e1, by rw [e2]; exact k⟩
theorem op2_catT {r2 : RV} {xs ys : List D} (e1 : dat ρ r = some (.tuple xs)) (e2 : dat ρ r2 = some (.tuple ys)) (hl : xs.length + ys.length ≤ 16777216) (k : K (.sh (.tuple (xs ++ ys)))) : Op2Q gAdd ρ r r2 K := by
  match xs, ys, hl, e1, e2, k with
  | [], ys, hl, e1, e2, k => exact ⟨_, _, .it (.tuple ys), e1, e2, by simp at hl; simp [gAdd, hl], k⟩
  | x :: xs, [], hl, e1, e2, k => exact ⟨_, _, .it (.tuple (x :: xs)), e1, e2, by simp only [List.length_nil, Nat.add_zero] at hl; simp only [gAdd, hl, if_true], by simpa using k⟩
  | x :: xs, y :: ys, hl, e1, e2, k => exact ⟨_, _, .nt ((x :: xs) ++ (y :: ys)), e1, e2, by simp only [gAdd, hl, if_true], k⟩
theorem op2_catTN {r2 : RV} {xs ys : List Nat} (e1 : dat ρ r = some (.tuple (Ns xs))) (e2 : dat ρ r2 = some (.tuple (Ns ys))) (hl : xs.length + ys.length ≤ 16777216) (k : K (.sh (.tuple (Ns (xs ++ ys))))) : Op2Q gAdd ρ r r2 K := op2_catT e1 e2 (by simpa using hl) (by rw [Ns_app]; exact k)
theorem op2_catLN {r2 : RV} {xs ys : List Nat} (e1 : dat ρ r = some (.list (Ns xs))) (e2 : dat ρ r2 = some (.list (Ns ys))) (hl : xs.length + ys.length ≤ 16777216) (k : K (.fr (.list (Ns (xs ++ ys))))) : Op2Q gAdd ρ r r2 K := op2_nl e1 e2 (gAdd_L (by simpa using hl)) (by rw [Ns_app]; exact k)
end
theorem map_Ns {α : Type} (l : List α) (f : α → Nat) : l.map (fun x => N (f x)) = Ns (l.map f) := by simp [Ns]
/-- a list of pairs -/
def Ps (l : List (Nat × Nat)) : List D := l.map fun p => pr p.1 p.2
@[simp] theorem Ps_len (l : List (Nat × Nat)) : (Ps l).length = l.length := by simp [Ps]
theorem map_Ps {α : Type} (l : List α) (f g : α → Nat) : l.map (fun x => PyData.tuple [N (f x), N (g x)]) = Ps (l.map fun x => (f x, g x)) := by simp [Ps, pr]
theorem map_Ps' {α : Type} (l : List α) (f g : α → Nat) : l.map (fun x => pr (f x) (g x)) = Ps (l.map fun x => (f x, g x)) := by simp [Ps, pr]
def RepQ (ρ : En) (r r2 : RV) (K : RV → Prop) : Prop := ∃ xs m, r = .fr (.list xs) ∧ dat ρ r2 = some (N m) ∧ (m ≤ 16777216 ∧ xs.length * m ≤ 16777216) ∧ K (.fr (.list (List.replicate m xs).flatten))
theorem ex_rep {f g : Fe} {ρ : En} {Q : RV → En → Prop} (k : Ex f ρ fun r ρ1 => Ex g ρ1 fun r2 ρ2 => RepQ ρ2 r r2 fun r => Q r ρ2) : Ex (frep f g) ρ Q := by
  obtain ⟨r, ρ1, e1, r2, ρ2, e2, xs, m, rfl, e3, h, k⟩ := k
  exact ⟨.fr (.list (List.replicate m xs).flatten), ρ2, frep_of e1 e2 e3 ⟨by omega, by omega, by simpa using h.2⟩, k⟩
theorem rep_flat (v : Nat) : ∀ m : Nat, (List.replicate m [N v]).flatten = Ns (List.replicate m v)
  | 0 => rfl
  | m + 1 => by rw [List.replicate_succ, List.flatten_cons, rep_flat v m]; simp [Ns, List.replicate_succ]
theorem repQ_N {ρ : En} {r2 : RV} {K : RV → Prop} {v m : Nat} (e : dat ρ r2 = some (N m)) (h : m ≤ 16777216) (k : K (.fr (.list (Ns (List.replicate m v))))) : RepQ ρ (.fr (.list [N v])) r2 K :=
  ⟨[N v], m, rfl, e, ⟨h, by simpa using h⟩, by rw [rep_flat]; exact k⟩
def SubQ (j : Nat) (d : D) (ρ : En) (r : RV) (K : En → Prop) : Prop := ∃ (i : Int) (n : Nat) (es : List D) (fl : Fl), fl ≠ .sh ∧ dat ρ r = some (.int i) ∧ ρ[j]? = some (some (fl, .list es)) ∧ ixN es.length i = some n ∧ K (ρ.set j (some (fl, .list (es.set n d))))
theorem exg_subQ {f : Fe} {ρ : En} {d d0 : D} {j : Nat} {fl : Fl} {QG : En → Prop} (e0 : ρ[j]? = some (some (fl, d0))) (hfl : fl ≠ .sh) (k : Ex f ρ fun r ρ1 => SubQ j d ρ1 r QG) : ExG (bsub j f) d ρ QG := by
  obtain ⟨r, ρ1, e1, i, n, es, fl', hfl', e2, e3, e4, k⟩ := k
  refine ⟨_, ?_, k⟩
  have : bsub1 j f d ρ = some (ρ1.set j (some (fl', .list (es.set n d)))) := by
    unfold bsub1
    rw [e1, Option.bind_some, e2, Option.bind_some, e3]
    show (if fl' = .sh then none else (ixN es.length i).map fun n => ρ1.set j (some (fl', .list (es.set n d)))) = _
    rw [if_neg hfl', e4]; rfl
  unfold bsub
  rw [e0]
  cases fl with
  | sh => exact absurd rfl hfl
  | ow => exact this
  | bx => exact this
theorem subQ_N {ρ : En} {r : RV} {j i x : Nat} {es : List Nat} {fl : Fl} {K : En → Prop} (e1 : dat ρ r = some (N i)) (e2 : ρ[j]? = some (some (fl, .list (Ns es)))) (hfl : fl ≠ .sh) (hi : i < es.length) (k : K (ρ.set j (some (fl, .list (Ns (es.set i x)))))) : SubQ j (N x) ρ r K :=
  ⟨i, i, Ns es, fl, hfl, e1, e2, ixN_int rfl (by simpa using hi), by rw [Ns_set]; exact k⟩
theorem skolem {n : Nat} {P : Nat → Nat → Prop} (h : ∀ e, e < n → ∃ r, P e r) : ∃ f : Nat → Nat, ∀ e, e < n → P e (f e) :=
  ⟨fun e => if he : e < n then Classical.choose (h e he) else 0, fun e he => by
    show P e (if he : e < n then Classical.choose (h e he) else 0)
    rw [dif_pos he]; exact Classical.choose_spec (h e he)⟩
def Sq (A : D) (s : List Nat) : Prop := A = .tuple (Ns s) ∨ A = .list (Ns s)
theorem Sq.t {s : List Nat} : Sq (.tuple (Ns s)) s := .inl rfl
theorem Sq.l {s : List Nat} : Sq (.list (Ns s)) s := .inr rfl
theorem Sq.ix {A : D} {s : List Nat} (h : Sq A s) {i : Nat} (hi : i < s.length) : gIx A (N i) = some (.it (N (gt s i))) := by
  rcases h with rfl | rfl
  · exact gIx_T hi
  · exact gIx_L hi
theorem Sq.len {A : D} {s : List Nat} (h : Sq A s) : gLen [A] = some (.it (N s.length)) := by
  rcases h with rfl | rfl
  · exact gLen_T
  · exact gLen_L
theorem Sq.lst {A : D} {s : List Nat} (h : Sq A s) : gList [A] = some (.nl (Ns s)) := by
  rcases h with rfl | rfl
  · exact gList_T
  · exact gList_L
theorem Sq.atom {A : D} {s : List Nat} (h : Sq A s) : DL.atom A = false := by
  rcases h with rfl | rfl <;> rfl
theorem opA_tupSq {ρ : En} {rs : List RV} {K : RV → Prop} {A : D} {s : List Nat} (e1 : datA ρ rs = some [A]) (h : Sq A s) (k : K (.sh (.tuple (Ns s)))) : OpAQ gTuple ρ rs K := by
  rcases h with rfl | rfl
  · exact opA_it e1 gTuple_T k
  · exact opA_nt e1 gTuple_L k
theorem lr1N {ρ : En} {r : RV} {n : Nat} {K : List D → Prop} (e : dat ρ r = some (N n)) (h : n ≤ 16777216) (k : K (Ns (List.range n))) : Lr1 ρ r K := lr1 e h k
theorem lr2N {ρ : En} {r r2 : RV} {a n : Nat} {K : List D → Prop} (e : dat ρ r = some (N a)) (e2 : dat ρ r2 = some (N n)) (h : a ≤ 16777216) (h2 : n ≤ 16777216) (k : K (Ns ((List.range (n - a)).map fun i => a + i))) : Lr2 ρ r r2 K := lr2 e e2 h h2 (by rw [map_Ns]; exact k)
theorem gIx_last {l : List Nat} {x : Nat} : gIx (.list (Ns (l ++ [x]))) (.int (-((1 : Nat) : Int))) = some (.it (N x)) := by
  rw [gIx_Lz (by simp)]
  congr 3
  have : gt (l ++ [x]) ((l ++ [x]).length - 1) = x := gt_of (by simp)
  rw [this]
theorem exg_pr {b1 b2 : Fg} {a b : Nat} {ρ : En} {QG : En → Prop} (k : ExG b1 (N a) ρ fun ρ1 => ExG b2 (N b) ρ1 QG) : ExG (btup 2 (bcons b1 (bcons b2 bnil))) (pr a b) ρ QG :=
  exg_tupT rfl (exgs_cons (k.imp fun ρ1 h => ⟨h.1, exgs_cons (h.2.imp fun ρ2 h => ⟨h.1, exgs_nil h.2⟩)⟩))
theorem frOf_f {d : D} {e : List D} : frOf ⟨false, d, e⟩ = .sh d := rfl
theorem frOf_t {d : D} {e : List D} : frOf ⟨true, d, e⟩ = .fr d := rfl
end Sh
set_option Elab.async false
set_option linter.all false
set_option maxRecDepth 100000
set_option maxHeartbeats 4000000
namespace Sh
open PySem PySem.Spec PyProof.Rows L2 DL
end Sh
set_option Elab.async false
set_option linter.all false
set_option maxRecDepth 100000
set_option maxHeartbeats 4000000
namespace Sh
open PySem PySem.Spec PyProof.Rows L2 DL
section
variable {ρ : En} {f g : Fe} {fs : Fa} {c : Ft} {s body : Fst} {gi : Fi} {b : Fg} {d : D} {Q : RV → En → Prop} {Nx : En → Prop} {R : RV → En → Prop} {B C : En → Prop}
def ForQ (b : Fg) (body : Fst) (ds : List D) (ρ : En) (Nx : En → Prop) (R : RV → En → Prop) : Prop := St (forD b body ds) ρ Nx R (fun _ => False) fun _ => False
theorem st_for (k : ExI gi ρ fun ds ρ1 => ForQ b body ds ρ1 Nx R) : St (ffor gi b body) ρ Nx R B C := by
  obtain ⟨ds, ρ1, e1, o, e2, k⟩ := k
  refine ⟨o, ffor_of e1 e2, ?_⟩
  cases o with
  | nx => exact k
  | rt => exact k
  | bk => exact k.elim
  | ct => exact k.elim
/-- a loop over a list, by what is true behind each beginning of it -/
theorem forQ {α : Type} {l : List α} {enc : α → D} (I : List α → En → Prop) {ds : List D} (hd : ds = l.map enc) (h0 : I [] ρ)
    (st : ∀ pre x post ρ, l = pre ++ x :: post → I pre ρ → ExG b (enc x) ρ fun ρ2 => St body ρ2 (I (pre ++ [x])) R Nx (I (pre ++ [x])))
    (k : ∀ ρ, I l ρ → Nx ρ) : ForQ b body ds ρ Nx R := by
  subst hd
  suffices H : ∀ (post pre : List α) (ρ : En), l = pre ++ post → I pre ρ → ForQ b body (post.map enc) ρ Nx R from H l [] ρ rfl h0
  intro post
  induction post with
  | nil => intro pre ρ e h; exact ⟨.nx ρ, rfl, k ρ (by rw [e, List.append_nil]; exact h)⟩
  | cons x post ih =>
    intro pre ρ e h
    obtain ⟨ρ1, e1, o, e2, k2⟩ := st pre x post ρ e h
    cases o with
    | nx ρ2 =>
      obtain ⟨o, e3, k3⟩ := ih (pre ++ [x]) ρ2 (by simpa using e) k2
      exact ⟨o, by simp only [List.map_cons, forD, e1, Option.bind_some, e2, e3], k3⟩
    | ct ρ2 =>
      obtain ⟨o, e3, k3⟩ := ih (pre ++ [x]) ρ2 (by simpa using e) k2
      exact ⟨o, by simp only [List.map_cons, forD, e1, Option.bind_some, e2, e3], k3⟩
    | bk ρ2 => exact ⟨.nx ρ2, by simp only [List.map_cons, forD, e1, Option.bind_some, e2], k2⟩
    | rt r ρ2 => exact ⟨.rt r ρ2, by simp only [List.map_cons, forD, e1, Option.bind_some, e2], k2⟩
/-- a loop over the numbers below n -/
theorem forQ_rng {n : Nat} {enc : Nat → D} (I : Nat → En → Prop) {ds : List D} (hd : ds = (List.range n).map enc) (h0 : I 0 ρ)
    (st : ∀ j ρ, j < n → I j ρ → ExG b (enc j) ρ fun ρ2 => St body ρ2 (I (j + 1)) R Nx (I (j + 1)))
    (k : ∀ ρ, I n ρ → Nx ρ) : ForQ b body ds ρ Nx R := by
  refine forQ (fun pre ρ => I pre.length ρ) hd h0 (fun pre x post ρ e h => ?_) fun ρ h => k ρ (by simpa using h)
  have hj : pre.length < n := by
    have := congrArg List.length e
    simp at this; omega
  have hx : x = pre.length := by
    have := congrArg (fun l => l[pre.length]?) e
    simp [hj] at this
    exact this.symm
  subst hx
  have := st pre.length ρ hj h
  simpa using this
/-- a loop that keeps what is true -/
theorem forQ_keep (I : En → Prop) {ds : List D} (h0 : I ρ) (st : ∀ d ρ, d ∈ ds → I ρ → ExG b d ρ fun ρ2 => St body ρ2 I R Nx I) (k : ∀ ρ, I ρ → Nx ρ) : ForQ b body ds ρ Nx R := by
  refine forQ (l := ds) (enc := id) (fun _ ρ => I ρ) (by simp) h0 (fun pre x post ρ e h => st x ρ (by rw [e]; simp) h) k
theorem st_while {fuel : Nat} (m0 : Nat) (I : Nat → En → Prop) (h0 : I m0 ρ) (hf : m0 < fuel)
    (st : ∀ m ρ, I m ρ → ExT c ρ fun t ρ1 => Two t (St body ρ1 (fun ρ2 => ∃ m', m' < m ∧ I m' ρ2) R Nx (fun ρ2 => ∃ m', m' < m ∧ I m' ρ2)) (Nx ρ1)) : St (whileD c body fuel) ρ Nx R B C := by
  induction fuel generalizing m0 ρ with
  | zero => omega
  | succ fuel ih =>
    obtain ⟨t, ρ1, e1, two⟩ := st m0 ρ h0
    cases t with
    | false => exact ⟨.nx ρ1, by simp [whileD, e1], two.2 rfl⟩
    | true =>
      obtain ⟨o, e2, k⟩ := two.1 rfl
      cases o with
      | nx ρ2 =>
        obtain ⟨m', hm, h'⟩ := k
        obtain ⟨o, e3, k3⟩ := ih m' h' (by omega)
        exact ⟨o, by simp [whileD, e1, e2, e3], k3⟩
      | ct ρ2 =>
        obtain ⟨m', hm, h'⟩ := k
        obtain ⟨o, e3, k3⟩ := ih m' h' (by omega)
        exact ⟨o, by simp [whileD, e1, e2, e3], k3⟩
      | bk ρ2 => exact ⟨.nx ρ2, by simp [whileD, e1, e2], k⟩
      | rt r ρ2 => exact ⟨.rt r ρ2, by simp [whileD, e1, e2], k⟩
def CallBQ (F : FS) (ρ : En) (rs : List RV) (K : RV → En → Prop) : Prop := ∃ ds r q, datA ρ rs = some ds ∧ F ds = some r ∧ fcallEnd (some 0) rs ρ r = some q ∧ K q.1 q.2
theorem ex_callB' {F : FS} (k : ExA fs ρ fun rs ρ1 => CallBQ F ρ1 rs Q) : Ex (fcall (some 0) F fs) ρ Q := ex_callB k
/-- the other arguments let go of nothing -/
theorem callB {F : FS} {j : Nat} {rs : List RV} {fl : Fl} {bx0 ds : List D} {K : RV → En → Prop} (e1 : datA ρ (.al j :: rs) = some ds) (e0 : ρ[j]? = some (some (fl, .list bx0))) (hf : fl ≠ .sh) (e2 : relA ρ rs = some ρ) (ha : hasAl j rs = false)
    (k : Cl F ds fun r => K (frOf r) (ρ.set j (some (fl, .list r.bx)))) : CallBQ F ρ (.al j :: rs) K := by
  obtain ⟨r, e3, k⟩ := k
  refine ⟨ds, r, (frOf r, ρ.set j (some (fl, .list r.bx))), e1, e3, ?_, k⟩
  have ha' : hasAl j ((RV.al j :: rs).set 0 (RV.sh .none)) = false := by
    show hasAl j (RV.sh .none :: rs) = false
    unfold hasAl at ha ⊢
    rw [List.any_cons, ha]; rfl
  have hl : (if lone (some 0) r then some ρ else relA ρ (setNo (some 0) (.al j :: rs))) = some ρ := by
    split
    · rfl
    · exact e2
  unfold fcallEnd
  rw [hl, Option.bind_some]
  show (if hasAl j ((RV.al j :: rs).set 0 (RV.sh .none)) then none else _) = _
  rw [ha', if_neg (by decide), e0]
  cases fl with
  | sh => exact absurd rfl hf
  | ow => rfl
  | bx => rfl
end
theorem partOk_of {b : Nat} {R : FS} (h : ∀ (k : Nat) (bx : List D), BoxOk k bx → k + b < 2 ^ 40 → Cl R [.list bx] fun r => ∃ bx', r = ⟨false, .bool true, bx'⟩ ∧ BoxOk (k + b) bx') : PartOk b R := fun k bx hb hk => by
  obtain ⟨r, e, bx', rfl, hb'⟩ := h k bx hb hk
  exact ⟨bx', e, hb'⟩
end Sh
set_option Elab.async false
set_option linter.all false
set_option maxRecDepth 100000
set_option maxHeartbeats 4000000
namespace Sh
abbrev Pt := Nat × Nat
/-- the other end of a join -/
def al (L : List (List Nat)) (p : Pt) : Pt := (p.1, gt (L.getD p.1 []) p.2)
/-- the end that is tied to this one -/
def tie (n k : Nat) (p : Pt) : Option Pt := if p.2 < n then (if p.1 = 0 then none else some (p.1 - 1, n + p.2)) else if p.1 + 1 < k then some (p.1 + 1, p.2 - n) else none
def Vd (n k : Nat) (p : Pt) : Prop := p.1 < k ∧ p.2 < 2 * n
inductive Conn (n : Nat) (L : List (List Nat)) (s : Pt) : Pt → Prop
  | refl : Conn n L s s
  | join {p : Pt} : Conn n L s p → Conn n L s (al L p)
  | tie {p q : Pt} : Conn n L s p → tie n L.length p = some q → Conn n L s q
def AllJ (n : Nat) (L : List (List Nat)) : Prop := ∀ s ∈ L, Joined (2 * n) s
theorem AllJ.get {n : Nat} {L : List (List Nat)} (h : AllJ n L) {i : Nat} (hi : i < L.length) : Joined (2 * n) (L.getD i []) := by
  rw [List.getD_eq_getElem?_getD, List.getElem?_eq_getElem hi]
  exact h _ (List.getElem_mem hi)
theorem al_vd {n : Nat} {L : List (List Nat)} (h : AllJ n L) {p : Pt} (v : Vd n L.length p) : Vd n L.length (al L p) := ⟨v.1, (h.get v.1).lt v.2⟩
theorem al_al {n : Nat} {L : List (List Nat)} (h : AllJ n L) {p : Pt} (v : Vd n L.length p) : al L (al L p) = p := by
  have := (h.get v.1).gg v.2
  unfold al; simp only [this]
theorem al_ne {n : Nat} {L : List (List Nat)} (h : AllJ n L) {p : Pt} (v : Vd n L.length p) : al L p ≠ p := fun e => (h.get v.1).ne v.2 (congrArg Prod.snd e)
theorem tie_vd {n k : Nat} {p q : Pt} (v : Vd n k p) (e : tie n k p = some q) : Vd n k q ∧ tie n k q = some p := by
  obtain ⟨i, x⟩ := p
  obtain ⟨v1, v2⟩ := v
  simp only at v1 v2
  unfold tie at e ⊢
  simp only at e
  split at e
  · split at e
    · cases e
    · cases e
      refine ⟨⟨by simp only; omega, by simp only; omega⟩, ?_⟩
      simp only
      rw [if_neg (by omega), if_pos (by omega)]
      congr 2 <;> omega
  · split at e
    · cases e
      refine ⟨⟨by simp only; omega, by simp only; omega⟩, ?_⟩
      simp only
      rw [if_pos (by omega), if_neg (by omega)]
      congr 2 <;> omega
    · cases e
section
variable {n : Nat} {L : List (List Nat)}
theorem Conn.vd (h : AllJ n L) {s p : Pt} (v : Vd n L.length s) (c : Conn n L s p) : Vd n L.length p := by
  induction c with
  | refl => exact v
  | join _ ih => exact al_vd h ih
  | tie _ e ih => exact (tie_vd ih e).1
theorem Conn.trans {s p q : Pt} (a : Conn n L s p) (b : Conn n L p q) : Conn n L s q := by
  induction b with
  | refl => exact a
  | join _ ih => exact .join ih
  | tie _ e ih => exact .tie ih e
theorem Conn.symm (h : AllJ n L) {s p : Pt} (v : Vd n L.length s) (c : Conn n L s p) : Conn n L p s := by
  induction c with
  | refl => exact .refl
  | @join r c ih =>
    have vp := c.vd h v
    have : Conn n L (al L r) (al L (al L r)) := .join .refl
    rw [al_al h vp] at this
    exact this.trans ih
  | tie c e ih =>
    have vp := c.vd h v
    exact (Conn.tie .refl (tie_vd vp e).2).trans ih
/-- the walk from an outer end -/
def W (n : Nat) (L : List (List Nat)) (s : Pt) : Nat → Option Pt
  | 0 => some s
  | t + 1 => (W n L s t).bind fun p => tie n L.length (al L p)
theorem W_vd (h : AllJ n L) {s : Pt} (v : Vd n L.length s) : ∀ (t : Nat) (p : Pt), W n L s t = some p → Vd n L.length p
  | 0, p, e => by cases e; exact v
  | t + 1, p, e => by
    unfold W at e
    rw [Option.bind_eq_some_iff] at e
    obtain ⟨q, e1, e2⟩ := e
    exact (tie_vd (al_vd h (W_vd h v t q e1)) e2).1
theorem W_none {s : Pt} {t : Nat} (e : W n L s t = none) : ∀ d, W n L s (t + d) = none
  | 0 => e
  | d + 1 => by
    show (W n L s (t + d)).bind _ = none
    rw [W_none e d]; rfl
theorem Conn.walk (h : AllJ n L) {s : Pt} (v : Vd n L.length s) (ho : Sh.tie n L.length s = none) {q : Pt} (c : Conn n L s q) : ∃ t p, W n L s t = some p ∧ (q = p ∨ q = al L p) := by
  induction c with
  | refl => exact ⟨0, s, rfl, .inl rfl⟩
  | join c ih =>
    obtain ⟨t, p, e1, rfl | rfl⟩ := ih
    · exact ⟨t, _, e1, .inr rfl⟩
    · exact ⟨t, p, e1, .inl (al_al h (W_vd h v t p e1))⟩
  | tie c e ih =>
    obtain ⟨t, p, e1, rfl | rfl⟩ := ih
    · cases t with
      | zero => cases e1; rw [ho] at e; cases e
      | succ t =>
        unfold W at e1
        rw [Option.bind_eq_some_iff] at e1
        obtain ⟨r, e2, e3⟩ := e1
        have := (tie_vd (al_vd h (W_vd h v t r e2)) e3).2
        rw [e] at this
        cases this
        exact ⟨t, r, e2, .inr rfl⟩
    · exact ⟨t + 1, _, by unfold W; rw [e1, Option.bind_some]; exact e, .inl rfl⟩
/-- from an outer end one comes to one other outer end at most -/
theorem Conn.uniq (h : AllJ n L) {s p q : Pt} (v : Vd n L.length s) (ho : Sh.tie n L.length s = none) (cp : Conn n L s p) (cq : Conn n L s q) (hp : Sh.tie n L.length p = none) (hq : Sh.tie n L.length q = none) (np : p ≠ s) (nq : q ≠ s) : p = q := by
  have go : ∀ {p : Pt}, Conn n L s p → Sh.tie n L.length p = none → p ≠ s → ∃ t r, W n L s t = some r ∧ p = al L r ∧ W n L s (t + 1) = none := by
    intro p cp hp np
    obtain ⟨t, r, e1, rfl | rfl⟩ := cp.walk h v ho
    · cases t with
      | zero => cases e1; exact absurd rfl np
      | succ t =>
        unfold W at e1
        rw [Option.bind_eq_some_iff] at e1
        obtain ⟨r, e2, e3⟩ := e1
        have := (tie_vd (al_vd h (W_vd h v t r e2)) e3).2
        rw [hp] at this; cases this
    · exact ⟨t, r, e1, rfl, by unfold W; rw [e1, Option.bind_some]; exact hp⟩
  obtain ⟨t, r, e1, e2, e3⟩ := go cp hp np
  obtain ⟨t', r', e1', e2', e3'⟩ := go cq hq nq
  have : t = t' := by
    rcases Nat.lt_trichotomy t t' with z | z | z
    · have := W_none e3 (t' - (t + 1))
      rw [show t + 1 + (t' - (t + 1)) = t' by omega, e1'] at this; cases this
    · exact z
    · have := W_none e3' (t - (t' + 1))
      rw [show t' + 1 + (t - (t' + 1)) = t by omega, e1] at this; cases this
  subst this
  rw [e1] at e1'; cases e1'
  rw [e2, e2']
end
/-- the place of an outer end -/
def out (n k e : Nat) : Pt := if e < n then (0, e) else (k - 1, e)
theorem out_tie {n k e : Nat} (hk : 0 < k) : tie n k (out n k e) = none := by
  unfold out tie
  split
  · simp [*]
  · next h =>
    simp only [h, if_false]
    rw [if_neg (by omega)]
theorem out_vd {n k e : Nat} (hk : 0 < k) (he : e < 2 * n) : Vd n k (out n k e) := by
  unfold out Vd
  split
  · exact ⟨by simpa using hk, by simpa using he⟩
  · exact ⟨by simp only; omega, by simpa using he⟩
theorem out_inj {n k e f : Nat} (h : out n k e = out n k f) : e = f := by
  unfold out at h
  split at h <;> split at h <;> simp at h
  · exact h
  · exact h.2
  · exact h.2
  · exact h
structure Comp (n : Nat) (L : List (List Nat)) (c : List Nat) : Prop where
  len : c.length = 2 * n
  ok : ∀ e, e < 2 * n → gt c e < 2 * n ∧ gt c e ≠ e ∧ Conn n L (out n L.length e) (out n L.length (gt c e))
section
variable {n : Nat} {L : List (List Nat)} {c c' : List Nat}
theorem Comp.end (h : AllJ n L) (hk : 0 < L.length) (C : Comp n L c) {e f : Nat} (he : e < 2 * n) (hf : f < 2 * n) (hne : f ≠ e) (hc : Conn n L (out n L.length e) (out n L.length f)) : gt c e = f := by
  obtain ⟨h1, h2, h3⟩ := C.ok e he
  exact out_inj (Conn.uniq h (out_vd hk he) (out_tie hk) h3 hc (out_tie hk) (out_tie hk) (fun q => h2 (out_inj q)) (fun q => hne (out_inj q)))
theorem Comp.joined (h : AllJ n L) (hk : 0 < L.length) (C : Comp n L c) : Joined (2 * n) c := by
  refine Joined.mk' C.len fun e he => ?_
  obtain ⟨h1, h2, h3⟩ := C.ok e he
  exact ⟨h1, h2, C.end h hk h1 he (Ne.symm h2) (h3.symm h (out_vd hk he))⟩
theorem gt_ext {m : Nat} {a b : List Nat} (ha : a.length = m) (hb : b.length = m) (h : ∀ e, e < m → gt a e = gt b e) : a = b := by
  apply List.ext_getElem?
  intro i
  by_cases hi : i < m
  · rw [gt_some (by omega), gt_some (by omega), h i hi]
  · rw [List.getElem?_eq_none (by omega), List.getElem?_eq_none (by omega)]
theorem Comp.uniq (h : AllJ n L) (hk : 0 < L.length) (C : Comp n L c) (C' : Comp n L c') : c = c' := by
  refine gt_ext C.len C'.len fun e he => ?_
  obtain ⟨h1, h2, h3⟩ := C'.ok e he
  exact C.end h hk he h1 h2 h3
/-- connected ends stay connected when places are renamed -/
theorem Conn.map {L' : List (List Nat)} (f : Pt → Pt) (h : AllJ n L) (hj : ∀ p, Vd n L.length p → Conn n L' (f p) (f (al L p))) (ht : ∀ p q, Vd n L.length p → Sh.tie n L.length p = some q → Conn n L' (f p) (f q)) {s p : Pt} (v : Vd n L.length s) (c : Conn n L s p) : Conn n L' (f s) (f p) := by
  induction c with
  | refl => exact .refl
  | join c ih => exact ih.trans (hj _ (c.vd h v))
  | tie c e ih => exact ih.trans (ht _ _ (c.vd h v) e)
end
section
variable {n : Nat} {a b c ab bc x : List Nat} (Ja : Joined (2 * n) a) (Jb : Joined (2 * n) b) (Jc : Joined (2 * n) c)
theorem allJ2 (Ja : Joined (2 * n) a) (Jb : Joined (2 * n) b) : AllJ n [a, b] := fun s h => by
  simp at h
  rcases h with rfl | rfl
  · exact Ja
  · exact Jb
theorem allJ3 (Ja : Joined (2 * n) a) (Jb : Joined (2 * n) b) (Jc : Joined (2 * n) c) : AllJ n [a, b, c] := fun s h => by
  simp at h
  rcases h with rfl | rfl | rfl
  · exact Ja
  · exact Jb
  · exact Jc
include Ja Jb Jc
theorem comp_left (Cab : Comp n [a, b] ab) (Cx : Comp n [ab, c] x) : Comp n [a, b, c] x := by
  have Jab := Cab.joined (allJ2 Ja Jb) (by simp)
  refine ⟨Cx.len, fun e he => ⟨(Cx.ok e he).1, (Cx.ok e he).2.1, ?_⟩⟩
  let f : Pt → Pt := fun p => if p.1 = 0 then (if p.2 < n then (0, p.2) else (1, p.2)) else (2, p.2)
  -- two sheets among three
  have in2 : ∀ s p : Pt, Vd n 2 s → Conn n [a, b] s p → Conn n [a, b, c] s p := fun s p v q => by
    refine Conn.map (L := [a, b]) (L' := [a, b, c]) id (allJ2 Ja Jb) (fun p v => ?_) (fun p q v e => ?_) v q
    · have : al [a, b] p = al [a, b, c] p := by
        obtain ⟨i, y⟩ := p
        have hi : i < 2 := v.1
        have : i = 0 ∨ i = 1 := by omega
        rcases this with rfl | rfl <;> rfl
      show Conn n [a, b, c] p (al [a, b] p)
      rw [this]; exact .join .refl
    · refine .tie .refl ?_
      obtain ⟨i, y⟩ := p
      unfold tie at e ⊢
      simp only [id] at e ⊢
      split
      · next h => rw [if_pos h] at e; exact e
      · next h =>
        rw [if_neg h] at e
        split at e
        · next h2 => rw [if_pos (by simp at h2 ⊢; omega)]; exact e
        · cases e
  have key : Conn n [a, b, c] (f (out n 2 e)) (f (out n 2 (gt x e))) := by
    refine Conn.map (L := [ab, c]) f (allJ2 Jab Jc) (fun p v => ?_) (fun p q v e => ?_) (out_vd (k := 2) (by omega) he) (Cx.ok e he).2.2
    · obtain ⟨i, y⟩ := p
      have hi : i < 2 := v.1
      have hy : y < 2 * n := v.2
      have : i = 0 ∨ i = 1 := by omega
      rcases this with rfl | rfl
      · have := in2 _ _ (out_vd (by omega) hy) (Cab.ok y hy).2.2
        have e1 : f (0, y) = out n 2 y := by simp only [f, out]; rfl
        have e2 : f (al [ab, c] (0, y)) = out n 2 (gt ab y) := by
          show f (0, gt ab y) = _
          simp only [f, out]; rfl
        rw [e1, e2]; exact this
      · show Conn n [a, b, c] (2, y) (2, gt c y)
        exact .join (p := (2, y)) .refl
    · obtain ⟨i, y⟩ := p
      have hi : i < 2 := v.1
      have hy : y < 2 * n := v.2
      have : i = 0 ∨ i = 1 := by omega
      rcases this with rfl | rfl
      · unfold tie at e
        simp at e
        obtain ⟨e1, rfl⟩ := e
        have e3 : f (0, y) = (1, y) := by simp [f]; omega
        rw [e3]
        refine .tie .refl ?_
        show tie n 3 (1, y) = some (2, y - n)
        unfold tie
        simp only
        rw [if_neg (by omega), if_pos (by omega)]
      · unfold tie at e
        simp at e
        obtain ⟨e1, rfl⟩ := e
        have e3 : f (0, n + y) = (1, n + y) := by simp [f]
        rw [e3]
        refine .tie .refl ?_
        show tie n 3 (2, y) = some (1, n + y)
        unfold tie
        simp only
        rw [if_pos e1, if_neg (by omega)]
  have ho : ∀ z, f (out n 2 z) = out n 3 z := fun z => by
    unfold out; simp only [f]
    by_cases h : z < n
    · simp [h]
    · simp [h]
  rw [ho, ho] at key
  exact key
end
end Sh
set_option Elab.async false
set_option linter.all false
set_option maxRecDepth 100000
set_option maxHeartbeats 4000000
namespace Sh
theorem gt_mk {m e : Nat} {f : Nat → Nat} (h : e < m) : gt ((List.range m).map f) e = f e := by
  apply gt_of
  rw [List.getElem?_map, List.getElem?_range h]; rfl
/-- the other end of the same person -/
def fl (n e : Nat) : Nat := if e < n then e + n else e - n
theorem fl_lt {n e : Nat} (h : e < 2 * n) : fl n e < 2 * n := by unfold fl; split <;> omega
theorem fl_fl {n e : Nat} (h : e < 2 * n) : fl n (fl n e) = e := by unfold fl; split <;> split <;> omega
def mir (n : Nat) (s : List Nat) : List Nat := (List.range (2 * n)).map fun e => fl n (gt s (fl n e))
theorem mir_len (n : Nat) (s : List Nat) : (mir n s).length = 2 * n := by simp [mir]
theorem mir_get {n : Nat} {s : List Nat} {e : Nat} (h : e < 2 * n) : gt (mir n s) e = fl n (gt s (fl n e)) := gt_mk h
section
variable {n : Nat} {s : List Nat} (J : Joined (2 * n) s)
include J
theorem mir_joined : Joined (2 * n) (mir n s) := by
  refine Joined.mk' (mir_len n s) fun e he => ?_
  have h1 := J.lt (fl_lt he)
  have h2 := fl_lt h1
  rw [mir_get he, mir_get h2, fl_fl h1, J.gg (fl_lt he), fl_fl he]
  refine ⟨h2, fun q => ?_, rfl⟩
  have := J.ne (fl_lt he)
  apply this
  rw [← fl_fl h1, q]
theorem mir_mir : mir n (mir n s) = s := by
  refine gt_ext (mir_len n _) J.len fun e he => ?_
  rw [mir_get he, mir_get (fl_lt he), fl_fl he, fl_fl (J.lt he)]
end
theorem rev_get {n : Nat} {L : List (List Nat)} {i : Nat} (h : i < L.length) : ((L.map (mir n)).reverse).getD (L.length - 1 - i) [] = mir n (L.getD i []) := by
  rw [List.getD_eq_getElem?_getD, List.getD_eq_getElem?_getD, List.getElem?_reverse (by simp; omega), List.length_map, List.getElem?_map, show L.length - 1 - (L.length - 1 - i) = i by omega, List.getElem?_eq_getElem h]
  rfl
theorem comp_mir {n : Nat} {L : List (List Nat)} {c : List Nat} (h : AllJ n L) (hk : 0 < L.length) (C : Comp n L c) : Comp n ((L.map (mir n)).reverse) (mir n c) := by
  have Jc := C.joined h hk
  refine ⟨mir_len n c, fun e he => ?_⟩
  have Jm := mir_joined Jc
  refine ⟨Jm.lt he, Jm.ne he, ?_⟩
  have he' := fl_lt he
  have hc := (C.ok _ he').2.2
  have := Conn.map (L := L) (L' := (L.map (mir n)).reverse) (fun p => (L.length - 1 - p.1, fl n p.2)) h (fun p v => ?_) (fun p q v e => ?_) (out_vd hk he') hc
  · have o : ∀ z, z < 2 * n → ((L.length - 1 - (out n L.length z).1, fl n (out n L.length z).2) : Pt) = out n ((L.map (mir n)).reverse).length (fl n z) := fun z hz => by
      unfold out fl
      simp only [List.length_reverse, List.length_map]
      by_cases q : z < n
      · simp [q]; omega
      · simp [q]; omega
    rw [o _ he', o _ (Jc.lt he'), fl_fl he] at this
    rw [mir_get he]
    exact this
  · have : ((L.length - 1 - (al L p).1, fl n (al L p).2) : Pt) = al ((L.map (mir n)).reverse) (L.length - 1 - p.1, fl n p.2) := by
      unfold al
      simp only
      rw [rev_get v.1, mir_get (fl_lt v.2), fl_fl v.2]
    show Conn n _ _ ((L.length - 1 - (al L p).1, fl n (al L p).2) : Pt)
    rw [this]
    exact .join .refl
  · refine .tie .refl ?_
    obtain ⟨i, x⟩ := p
    obtain ⟨v1, v2⟩ := v
    simp only at v1 v2
    unfold tie fl at *
    simp only [List.length_reverse, List.length_map] at *
    by_cases q1 : x < n
    · rw [if_pos q1] at e
      by_cases q2 : i = 0
      · rw [if_pos q2] at e; cases e
      · rw [if_neg q2] at e; cases e
        simp only
        rw [if_pos q1, if_neg (by omega), if_pos (by omega), if_neg (by omega)]
        congr 2 <;> omega
    · rw [if_neg q1] at e
      by_cases q2 : i + 1 < L.length
      · rw [if_pos q2] at e; cases e
        simp only
        rw [if_neg q1, if_pos (by omega), if_neg (by omega), if_pos (by omega)]
        congr 2 <;> omega
      · rw [if_neg q2] at e; cases e
theorem comp_mir2 {n : Nat} {a b c : List Nat} (Ja : Joined (2 * n) a) (Jb : Joined (2 * n) b) (C : Comp n [a, b] c) : Comp n [mir n b, mir n a] (mir n c) := comp_mir (allJ2 Ja Jb) (by simp) C
theorem comp_right {n : Nat} {a b c bc x : List Nat} (Ja : Joined (2 * n) a) (Jb : Joined (2 * n) b) (Jc : Joined (2 * n) c) (Cbc : Comp n [b, c] bc) (Cx : Comp n [a, bc] x) : Comp n [a, b, c] x := by
  have Jbc := Cbc.joined (allJ2 Jb Jc) (by simp)
  have Jx := Cx.joined (allJ2 Ja Jbc) (by simp)
  have h1 := comp_left (mir_joined Jc) (mir_joined Jb) (mir_joined Ja) (comp_mir2 Jb Jc Cbc) (comp_mir2 Ja Jbc Cx)
  have h2 := comp_mir (allJ3 (mir_joined Jc) (mir_joined Jb) (mir_joined Ja)) (by simp) h1
  simp only [List.map_cons, List.map_nil, mir_mir Ja, mir_mir Jb, mir_mir Jc, mir_mir Jx] at h2
  exact h2
theorem comp_assoc {n : Nat} {a b c ab bc x y : List Nat} (Ja : Joined (2 * n) a) (Jb : Joined (2 * n) b) (Jc : Joined (2 * n) c) (Cab : Comp n [a, b] ab) (Cx : Comp n [ab, c] x) (Cbc : Comp n [b, c] bc) (Cy : Comp n [a, bc] y) : x = y :=
  Comp.uniq (allJ3 Ja Jb Jc) (by simp) (comp_left Ja Jb Jc Cab Cx) (comp_right Ja Jb Jc Cbc Cy)
def idS (n : Nat) : List Nat := (List.range (2 * n)).map (fl n)
theorem idS_len (n : Nat) : (idS n).length = 2 * n := by simp [idS]
theorem idS_get {n e : Nat} (h : e < 2 * n) : gt (idS n) e = fl n e := gt_mk h
theorem idS_joined (n : Nat) : Joined (2 * n) (idS n) := Joined.mk' (idS_len n) fun e he => by
  rw [idS_get he, idS_get (fl_lt he), fl_fl he]
  refine ⟨fl_lt he, ?_, rfl⟩
  unfold fl; split <;> omega
theorem mir_idS (n : Nat) : mir n (idS n) = idS n := gt_ext (mir_len n _) (idS_len n) fun e he => by
  rw [mir_get he, idS_get (fl_lt he), fl_fl he, idS_get he]
section
variable {n : Nat} {a : List Nat} (J : Joined (2 * n) a)
include J
theorem conn2_join {b : List Nat} {i y : Nat} {L : List (List Nat)} (h : L.getD i [] = b) : Conn n L (i, y) (i, gt b y) := by
  have : al L (i, y) = (i, gt b y) := by unfold al; simp only [h]
  rw [← this]; exact .join .refl
theorem comp_id_left : Comp n [idS n, a] a := by
  refine ⟨J.len, fun e he => ⟨J.lt he, J.ne he, ?_⟩⟩
  -- an upper end comes down, a lower end stays
  have down : ∀ z, z < 2 * n → Conn n [idS n, a] (out n 2 z) (1, z) := fun z hz => by
    unfold out
    by_cases q : z < n
    · rw [if_pos q]
      have c1 : Conn n [idS n, a] (0, z) (0, n + z) := by
        have := conn2_join J (n := n) (L := [idS n, a]) (b := idS n) (i := 0) (y := z) rfl
        rw [idS_get hz] at this
        unfold fl at this
        rw [if_pos q, Nat.add_comm z n] at this; exact this
      refine c1.tie ?_
      unfold tie
      simp only [List.length_cons, List.length_nil]
      rw [if_neg (by omega), if_pos (by omega)]
      simp
    · rw [if_neg q]; exact .refl
  have A := allJ2 (idS_joined n) J
  have h1 := down e he
  have h2 := down _ (J.lt he)
  have h3 := conn2_join J (n := n) (L := [idS n, a]) (b := a) (i := 1) (y := e) rfl
  exact h1.trans (h3.trans (h2.symm A (out_vd (k := 2) (by omega) (J.lt he))))
theorem comp_id_right : Comp n [a, idS n] a := by
  have := comp_mir2 (idS_joined n) (mir_joined J) (comp_id_left (mir_joined J))
  rwa [mir_idS, mir_mir J] at this
end
def hat (n : Nat) (p : List Nat) : List Nat := (List.range (2 * n)).map fun e => if e < n then gt p e else n + gt p (e - n)
theorem hat_lo {n : Nat} {p : List Nat} {e : Nat} (h : e < n) : gt (hat n p) e = gt p e := by unfold hat; rw [gt_mk (by omega), if_pos h]
theorem hat_hi {n : Nat} {p : List Nat} {e : Nat} (h : e < n) : gt (hat n p) (n + e) = n + gt p e := by
  unfold hat; rw [gt_mk (by omega), if_neg (by omega), show n + e - n = e by omega]
theorem hat_joined {n : Nat} {p : List Nat} (J : Joined n p) : Joined (2 * n) (hat n p) := by
  refine Joined.mk' (by simp [hat]) fun e he => ?_
  by_cases q : e < n
  · rw [hat_lo q, hat_lo (J.lt q)]
    exact ⟨by have := J.lt q; omega, J.ne q, J.gg q⟩
  · obtain ⟨x, rfl⟩ : ∃ x, e = n + x := ⟨e - n, by omega⟩
    have hx : x < n := by omega
    rw [hat_hi hx, hat_hi (J.lt hx), J.gg hx]
    exact ⟨by have := J.lt hx; omega, by have := J.ne hx; omega, rfl⟩
/-- r is the result of s beside p -/
structure Res (n : Nat) (s p r : List Nat) : Prop where
  len : r.length = n
  ok : ∀ x, x < n → gt r x < n ∧ gt r x ≠ x ∧ Conn n [hat n p, s] (1, n + x) (1, n + gt r x)
section
variable {n : Nat} {s p r r' : List Nat} (J : Joined (2 * n) s) (Jp : Joined n p)
include J Jp
theorem Res.end (R : Res n s p r) {x y : Nat} (hx : x < n) (hy : y < n) (hne : y ≠ x) (hc : Conn n [hat n p, s] (1, n + x) (1, n + y)) : gt r x = y := by
  obtain ⟨h1, h2, h3⟩ := R.ok x hx
  have o : ∀ z, z < n → (1, n + z) = out n 2 (n + z) := fun z hz => by unfold out; rw [if_neg (by omega)]
  have := Conn.uniq (allJ2 (hat_joined Jp) J) (s := (1, n + x)) (by rw [o x hx]; exact out_vd (k := 2) (by omega) (by omega)) (by rw [o x hx]; exact out_tie (by simp)) h3 hc (by rw [o _ h1]; exact out_tie (by simp)) (by rw [o _ hy]; exact out_tie (by simp)) (fun q => h2 (by simpa using q)) (fun q => hne (by simpa using q))
  simpa using this
theorem Res.joined (R : Res n s p r) : Joined n r := by
  refine Joined.mk' R.len fun x hx => ?_
  obtain ⟨h1, h2, h3⟩ := R.ok x hx
  refine ⟨h1, h2, R.end J Jp h1 hx (Ne.symm h2) (h3.symm (allJ2 (hat_joined Jp) J) ?_)⟩
  exact ⟨by simp, by simp only; omega⟩
theorem Res.uniq (R : Res n s p r) (R' : Res n s p r') : r = r' := gt_ext R.len R'.len fun x hx => by
  obtain ⟨h1, h2, h3⟩ := R'.ok x hx
  exact R.end J Jp hx h1 h2 h3
end
/-- the result of two sheets is that of one after another -/
theorem res_comp {n : Nat} {a b ab p q r r' w : List Nat} (Ja : Joined (2 * n) a) (Jb : Joined (2 * n) b) (Jp : Joined n p) (C : Comp n [a, b] ab) (R1 : Res n a p q) (R2 : Res n b q r) (Cw : Comp n [hat n p, ab] w) (R : Res n ab p r') : r' = r := by
  have Jab := C.joined (allJ2 Ja Jb) (by simp)
  have Jq := R1.joined Ja Jp
  have Jr := R2.joined Jb Jq
  have H := hat_joined Jp
  have A3 := allJ3 H Ja Jb
  -- the sheet of p, then a, has the partners of q at its lower ends
  refine gt_ext R.len R2.len fun x hx => ?_
  obtain ⟨y, hy⟩ : ∃ y, gt r x = y := ⟨_, rfl⟩
  have hyn : y < n := by rw [← hy]; exact Jr.lt hx
  rw [hy]
  have c1 : Conn n [hat n p, a, b] (2, n + x) (2, n + y) := by
    have := Conn.map (L := [hat n q, b]) (L' := [hat n p, a, b]) (fun z => if z.1 = 0 then (if z.2 < n then (0, 0) else (1, z.2)) else (2, z.2)) (allJ2 (hat_joined Jq) Jb) (fun z v => ?_) (fun z w v e => ?_) (s := (1, n + x)) (p := (1, n + y)) ⟨by simp, by simp only; omega⟩ (by rw [← hy]; exact (R2.ok x hx).2.2)
    · simpa using this
    · obtain ⟨i, z⟩ := z
      have hi : i < 2 := v.1
      have hz : z < 2 * n := v.2
      have : i = 0 ∨ i = 1 := by omega
      rcases this with rfl | rfl
      · show Conn n _ (if z < n then (0, 0) else (1, z)) (if gt (hat n q) z < n then (0, 0) else (1, gt (hat n q) z))
        by_cases hzn : z < n
        · rw [if_pos hzn, hat_lo hzn, if_pos (Jq.lt hzn)]; exact .refl
        · obtain ⟨u, rfl⟩ : ∃ u, z = n + u := ⟨z - n, by omega⟩
          have hu : u < n := by omega
          rw [if_neg hzn, hat_hi hu, if_neg (by omega)]
          refine Conn.map (L := [hat n p, a]) (L' := [hat n p, a, b]) id (allJ2 H Ja) (fun w v => ?_) (fun w w' v e => ?_) ⟨by simp, by simp only; omega⟩ (R1.ok u hu).2.2
          · obtain ⟨i, w⟩ := w
            have hi : i < 2 := v.1
            have : i = 0 ∨ i = 1 := by omega
            rcases this with rfl | rfl
            · exact conn2_join (b := hat n p) H rfl
            · exact conn2_join (b := a) Ja rfl
          · refine .tie .refl ?_
            obtain ⟨i, w⟩ := w
            unfold tie at e ⊢
            simp only [id, List.length_cons, List.length_nil] at e ⊢
            split
            · next h => rw [if_pos h] at e; exact e
            · next h =>
              rw [if_neg h] at e
              split at e
              · next h2 => rw [if_pos (by omega)]; exact e
              · cases e
      · exact conn2_join (b := b) Jb rfl
    · obtain ⟨i, z⟩ := z
      have hi : i < 2 := v.1
      have hz : z < 2 * n := v.2
      have : i = 0 ∨ i = 1 := by omega
      rcases this with rfl | rfl
      · unfold tie at e
        simp at e
        obtain ⟨e1, rfl⟩ := e
        show Conn n _ (if z < n then (0, 0) else (1, z)) (2, z - n)
        rw [if_neg (by omega)]
        refine .tie .refl ?_
        unfold tie
        simp only [List.length_cons, List.length_nil]
        rw [if_neg (by omega), if_pos (by omega)]
      · unfold tie at e
        simp at e
        obtain ⟨e1, rfl⟩ := e
        show Conn n _ (2, z) (if n + z < n then (0, 0) else (1, n + z))
        rw [if_neg (by omega)]
        refine .tie .refl ?_
        unfold tie
        simp only [List.length_cons, List.length_nil]
        rw [if_pos e1, if_neg (by omega)]
  have Cw3 := comp_right H Ja Jb C Cw
  have g1 : gt w (n + x) = n + y := by
    refine Cw3.end A3 (by simp) (by omega) (by omega) (fun e => ?_) ?_
    · have := Jr.ne hx; omega
    · unfold out
      rw [if_neg (by omega), if_neg (by omega)]
      exact c1
  obtain ⟨h1, h2, h3⟩ := R.ok x hx
  have g2 : gt w (n + x) = n + gt r' x := by
    refine Cw.end (allJ2 H Jab) (by simp) (by omega) (by omega) (fun e => h2 (by omega)) ?_
    unfold out
    rw [if_neg (by omega), if_neg (by omega)]
    exact h3
  omega
section
variable {n : Nat} {L : List (List Nat)} (h : AllJ n L) {s : Pt} (v : Vd n L.length s) (ho : Sh.tie n L.length s = none)
include h v
theorem W_conn : ∀ (t : Nat) (p : Pt), W n L s t = some p → Conn n L s p
  | 0, p, e => by cases e; exact .refl
  | t + 1, p, e => by
    unfold W at e
    rw [Option.bind_eq_some_iff] at e
    obtain ⟨q, e1, e2⟩ := e
    exact (Conn.join (W_conn t q e1)).tie e2
theorem W_pred {t : Nat} {p : Pt} (e : W n L s (t + 1) = some p) : ∃ q, W n L s t = some q ∧ Sh.tie n L.length (al L q) = some p ∧ Sh.tie n L.length p = some (al L q) := by
  unfold W at e
  rw [Option.bind_eq_some_iff] at e
  obtain ⟨q, e1, e2⟩ := e
  exact ⟨q, e1, e2, (tie_vd (al_vd h (W_vd h v t q e1)) e2).2⟩
include ho
theorem W_inj : ∀ (i d : Nat) (p : Pt), W n L s i = some p → W n L s (i + d) = some p → d = 0
  | 0, 0, _, _, _ => rfl
  | 0, d + 1, p, e1, e2 => by
    rw [Nat.zero_add] at e2
    obtain ⟨q, f1, f2, f3⟩ := W_pred h v e2
    cases e1
    rw [ho] at f3; cases f3
  | i + 1, d, p, e1, e2 => by
    rw [show i + 1 + d = (i + d) + 1 by omega] at e2
    obtain ⟨q, f1, f2, f3⟩ := W_pred h v e1
    obtain ⟨q', f1', f2', f3'⟩ := W_pred h v e2
    rw [f3] at f3'
    have : q = q' := by
      have e := Option.some.inj f3'
      rw [← al_al h (W_vd h v _ _ f1), e, al_al h (W_vd h v _ _ f1')]
    subst this
    exact W_inj i d q f1 f1'
theorem W_few {t : Nat} {p : Pt} (e : W n L s t = some p) : t < L.length * (2 * n) := by
  have hs : ∀ i, i ≤ t → ∃ q, W n L s i = some q := fun i hi => by
    cases hq : W n L s i with
    | some q => exact ⟨q, rfl⟩
    | none =>
      have := W_none hq (t - i)
      rw [show i + (t - i) = t by omega, e] at this; cases this
  let f : Nat → Nat := fun i => match W n L s i with
    | some q => q.1 * (2 * n) + q.2
    | none => 0
  have hf : ∀ i q, W n L s i = some q → f i = q.1 * (2 * n) + q.2 := fun i q hq => by simp only [f, hq]
  have hlt : ∀ i, i ≤ t → f i < L.length * (2 * n) := fun i hi => by
    obtain ⟨q, hq⟩ := hs i hi
    have := W_vd h v _ _ hq
    rw [hf i q hq]
    calc q.1 * (2 * n) + q.2 < q.1 * (2 * n) + 2 * n := by have := this.2; omega
      _ = (q.1 + 1) * (2 * n) := (Nat.succ_mul _ _).symm
      _ ≤ L.length * (2 * n) := Nat.mul_le_mul_right _ this.1
  have hnd : ((List.range (t + 1)).map f).Nodup := by
    rw [List.nodup_iff_pairwise_ne, List.pairwise_iff_getElem]
    intro i j hi hj hij
    simp only [List.length_map, List.length_range] at hi hj
    simp only [List.getElem_map, List.getElem_range]
    obtain ⟨q, hq⟩ := hs i (by omega)
    obtain ⟨q', hq'⟩ := hs j (by omega)
    rw [hf i q hq, hf j q' hq']
    intro e
    have v1 := (W_vd h v _ _ hq).2
    have v2 := (W_vd h v _ _ hq').2
    have e1 : q.1 = q'.1 := by
      have a1 : (q.1 * (2 * n) + q.2) / (2 * n) = q.1 := by rw [Nat.mul_comm, Nat.mul_add_div (by omega), Nat.div_eq_of_lt v1]; rfl
      have a2 : (q'.1 * (2 * n) + q'.2) / (2 * n) = q'.1 := by rw [Nat.mul_comm, Nat.mul_add_div (by omega), Nat.div_eq_of_lt v2]; rfl
      rw [← a1, e, a2]
    have e2 : q.2 = q'.2 := by rw [e1] at e; omega
    have : q = q' := Prod.ext e1 e2
    subst this
    have := W_inj h v ho i (j - i) q hq (by rw [show i + (j - i) = j by omega]; exact hq')
    omega
  have hss : ∀ y ∈ (List.range (t + 1)).map f, y ∈ List.range (L.length * (2 * n)) := fun y hy => by
    obtain ⟨i, hi, rfl⟩ := List.mem_map.mp hy
    exact List.mem_range.mpr (hlt i (by have := List.mem_range.mp hi; omega))
  have := List.Nodup.length_le_of_subset hnd hss
  simp at this; omega
theorem W_back : ∀ (d i : Nat) (p q : Pt), W n L s i = some p → W n L s (i + d) = some q → al L p ≠ q
  | 0, i, p, q, e1, e2, e => by
    rw [Nat.add_zero, e1] at e2
    cases e2
    exact al_ne h (W_vd h v _ _ e1) e
  | 1, i, p, q, e1, e2, e => by
    obtain ⟨q', f1, f2, f3⟩ := W_pred h v e2
    rw [e1] at f1; cases f1
    rw [e] at f2
    -- an end is not tied to itself
    obtain ⟨a, b⟩ := q
    unfold tie at f2
    simp only at f2
    split at f2
    · split at f2
      · cases f2
      · have := congrArg Prod.fst (Option.some.inj f2); simp only at this; omega
    · split at f2
      · have := congrArg Prod.fst (Option.some.inj f2); simp only at this; omega
      · cases f2
  | d + 2, i, p, q, e1, e2, e => by
    rw [show i + (d + 2) = (i + 1 + d) + 1 by omega] at e2
    obtain ⟨q', f1, f2, f3⟩ := W_pred h v e2
    have g1 : W n L s (i + 1) = some (al L q') := by
      unfold W
      rw [e1, Option.bind_some, e]
      exact f3
    refine W_back d (i + 1) (al L q') q' g1 f1 (al_al h (W_vd h v _ _ f1))
end
theorem W_ne {n : Nat} {L : List (List Nat)} (h : AllJ n L) {s : Pt} (v : Vd n L.length s) (ho : Sh.tie n L.length s = none) {t : Nat} {p : Pt} (e : W n L s t = some p) : al L p ≠ s := fun q => by
  have := W_back h v ho t 0 s p rfl (by rw [Nat.zero_add]; exact e)
  apply this
  rw [← q, al_al h (W_vd h v _ _ e)]
end Sh
set_option Elab.async false
set_option linter.all false
set_option maxRecDepth 100000
set_option maxHeartbeats 4000000
namespace Sh
open PySem PySem.Spec PyProof.Rows L2 DL
local macro_rules | `(tactic| infer_instance) => `(tactic| first
  | with_reducible apply st_seq
  | ((with_reducible apply cl_toF); (simp +decide only [en0, enA, List.length_cons, List.length_nil, List.cons_append, List.nil_append, List.replicate, ↓reduceIte, Nat.reduceAdd, Nat.reduceSub, Nat.zero_add] <;> exact rfl); exact rfl)
  | with_reducible apply st_set
  | with_reducible apply st_ph
  | with_reducible apply pst_set
  | ((with_reducible apply psetQ); (first | (simp [allFrL]; done) | (simp [allFrL]; omega) | (simp [allFrL, Ts]; omega)); exact rfl; exact rfl; (try dsimp only [List.set_cons_zero, List.set_cons_succ, frOf_f, frOf_t, List.cons_append, List.nil_append]))
  | ((with_reducible apply pst_if); exact rfl)
  | ((with_reducible apply pst_mut); exact rfl; (simp; done); decide)
  | with_reducible apply pst_end
  | with_reducible apply st_asg
  | with_reducible apply st_if
  | with_reducible apply st_ret
  | with_reducible apply st_drop
  | with_reducible apply st_skip
  | with_reducible apply st_retN
  | with_reducible apply exa_nil
  | with_reducible apply exa_cons
  | with_reducible apply exa_f1
  | with_reducible apply exa_perm
  | with_reducible apply exa_app
  | ((with_reducible apply ex_var_sh); exact rfl)
  | ((with_reducible apply ex_var_al); exact rfl; decide)
  | with_reducible apply ex_fc0 | with_reducible apply ex_fc1 | with_reducible apply ex_fc2 | with_reducible apply ex_fc3 | with_reducible apply ex_fc4 | with_reducible apply ex_fc5 | with_reducible apply ex_fc6 | with_reducible apply ex_fc7 | with_reducible apply ex_fc8 | with_reducible apply ex_fc9 | with_reducible apply ex_fc10 | with_reducible apply ex_fc11 | with_reducible apply ex_fc12 | with_reducible apply ex_fc14 | with_reducible apply ex_fc16 | with_reducible apply ex_fc18 | with_reducible apply ex_fc20 | with_reducible apply ex_fc21 | with_reducible apply ex_fc26 | with_reducible apply ex_fc30 | with_reducible apply ex_fc40 | with_reducible apply ex_fc41 | with_reducible apply ex_fc50 | with_reducible apply ex_fc60 | with_reducible apply ex_fc61 | with_reducible apply ex_fc80 | with_reducible apply ex_fc100 | with_reducible apply ex_fc300 | with_reducible apply ex_fc400
  | with_reducible apply ex_fc
  | with_reducible apply ex_op2
  | with_reducible apply ex_opA
  | with_reducible apply ex_op1
  | with_reducible apply ex_tup
  | with_reducible apply ex_lst
  | with_reducible apply ex_fdctT
  | with_reducible apply ex_fdctK
  | ((with_reducible apply exg_putQ); exact rfl; decide)
  | ((with_reducible apply op2_it); exact rfl; exact rfl; with_reducible exact nin_Td)
  | ((with_reducible apply opA_it); exact rfl; with_reducible exact len_Td)
  | with_reducible apply ex_call
  | with_reducible apply ex_lc
  | with_reducible apply ex_rep
  | ((with_reducible apply repQ_2); exact rfl)
  | ((with_reducible apply repQ_3); exact rfl)
  | ((with_reducible apply repAQ_P); exact rfl; decide; exact rfl; omega; omega)
  | ((with_reducible apply repQ_N); exact rfl; omega)
  | ((with_reducible apply nrm); (try simp only [filt_true, map_Ns, map_Ps, map_Ps', List.map_id_fun', List.map_id']))
  | ((with_reducible apply ex_meth); exact rfl; decide)
  | ((with_reducible apply methQ); exact rfl; exact rfl; exact rfl; decide; (first | ((with_reducible apply gAppend_N); (first | omega | (simp only [List.length_set, List.length_append, List.length_map, List.length_range, List.length_replicate, List.length_cons, List.length_nil, Ns_len, Ps_len]; omega) | (simp; omega))) | ((with_reducible apply gAppend_d); (first | omega | (simp only [List.length_set, List.length_append, List.length_map, List.length_range, List.length_replicate, List.length_cons, List.length_nil, Ns_len, Ps_len]; omega) | (simp; omega))) | with_reducible assumption); (try dsimp only [List.set_cons_zero, List.set_cons_succ, frOf_f, frOf_t, List.cons_append, List.nil_append]))
  | ((with_reducible apply exg_subQ); exact rfl; decide)
  | ((with_reducible apply subQ_N); exact rfl; exact rfl; decide; (first | omega | (simp only [List.length_set, List.length_append, List.length_map, List.length_range, List.length_replicate]; omega) | (simp; omega)); (try dsimp only [List.set_cons_zero, List.set_cons_succ, frOf_f, frOf_t, List.cons_append, List.nil_append]))
  | with_reducible apply ex_slice
  | with_reducible apply ex_chain
  | with_reducible apply ex_lrg1
  | with_reducible apply ex_lrg2
  | with_reducible apply ex_and
  | with_reducible apply ex_or
  | with_reducible apply ex_not
  | with_reducible apply ex_if
  | with_reducible apply ext_bool
  | with_reducible apply ext_not
  | with_reducible apply ext_and
  | with_reducible apply ext_andI
  | with_reducible apply ext_orI
  | with_reducible apply ex_andJ
  | with_reducible apply ex_repA
  | with_reducible apply ext_or
  | with_reducible apply ext_true
  | ((with_reducible apply setQ); exact rfl; exact rfl; exact rfl; (try dsimp only [List.set_cons_zero, List.set_cons_succ, frOf_f, frOf_t, List.cons_append, List.nil_append]))
  | ((with_reducible apply seqQ); exact rfl; exact rfl; (try dsimp only [List.set_cons_zero, List.set_cons_succ, frOf_f, frOf_t, List.cons_append, List.nil_append]))
  | ((with_reducible apply asgQ); exact rfl; exact rfl)
  | with_reducible apply boolQ
  | ((with_reducible apply op2_it); exact rfl; exact rfl; first | with_reducible exact gAdd_N | ((with_reducible apply gSub_N) <;> omega) | ((with_reducible apply gSub_N); (apply_assumption -symm -exfalso (transparency := .reducible) only [*] <;> first | with_reducible assumption | omega)) | ((with_reducible apply gMul_N) <;> omega) | ((with_reducible apply gFdiv_N) <;> omega) | ((with_reducible apply gMod_N) <;> omega) | with_reducible exact gLt_N | with_reducible exact gLe_N | with_reducible exact gGt_N | with_reducible exact gGe_N | with_reducible exact gEq_N | with_reducible exact gNe_N | ((with_reducible apply gIx_T) <;> omega) | ((with_reducible apply gIx_L) <;> omega) | ((with_reducible apply gIx_T); (apply_assumption -symm -exfalso (transparency := .reducible) only [*] <;> first | with_reducible assumption | omega)) | ((with_reducible apply gIx_L); (apply_assumption -symm -exfalso (transparency := .reducible) only [*] <;> first | with_reducible assumption | omega)) | with_reducible exact gIx_pr0 | with_reducible exact gIx_p0 | with_reducible exact gIx_p1 | with_reducible exact gIx_pr1 | with_reducible exact gIx_l0 | with_reducible exact gIx_l1 | with_reducible exact gEq_T | with_reducible exact gNe_T | with_reducible exact gEq_L | with_reducible exact gNe_L | with_reducible exact gNe_Lnil | with_reducible exact gIs_non | with_reducible exact gNis_non | with_reducible exact gNis_B | with_reducible exact gIs_B | with_reducible exact gEq_str | with_reducible exact gEq_non | with_reducible exact gNe_str | with_reducible exact gAdd_I | with_reducible exact gSub_I | with_reducible exact gEq_I | with_reducible exact gNe_I | with_reducible exact gLt_I | with_reducible exact gLe_I | with_reducible exact gGt_I | with_reducible exact gGe_I | with_reducible exact gEq_B | with_reducible exact gNe_B | with_reducible assumption)
  | ((with_reducible apply op2_it); exact rfl; exact rfl; (refine Sq.ix (by with_reducible assumption) ?_); first | omega | with_reducible assumption)
  | ((with_reducible apply op2_it); exact rfl; exact rfl; with_reducible exact gIx_last)
  | ((with_reducible apply op2_it); exact rfl; exact rfl; with_reducible exact gIx_lastd)
  | ((with_reducible apply op2_it); exact rfl; exact rfl; with_reducible exact gIx_last2)
  | ((with_reducible apply op2_it); exact rfl; exact rfl; (with_reducible apply gIx_Lz); first | with_reducible assumption | (simp; done) | (apply_assumption -symm -exfalso (transparency := .reducible) only [*] <;> first | with_reducible assumption | omega))
  | ((with_reducible apply op2_catTN); exact rfl; exact rfl; (simp; omega))
  | ((with_reducible apply op2_catLN); exact rfl; exact rfl; (simp; omega))
  | ((with_reducible apply op2_nl); exact rfl; exact rfl; (first | ((with_reducible apply gAdd_L) <;> (first | omega | (simp; done) | (simp; omega))) | with_reducible assumption); (try dsimp only [List.cons_append, List.nil_append]))
  | ((with_reducible apply op1_it); exact rfl; first | with_reducible exact gNeg_N | ((with_reducible apply gIsi_x); first | exact rfl | with_reducible assumption) | ((with_reducible apply gIsi2_x); first | exact rfl | with_reducible assumption))
  | ((with_reducible apply opA_it); exact rfl; first | with_reducible exact gLen_T | with_reducible exact gLen_L | with_reducible exact gLen_l | with_reducible exact gLen_t | with_reducible exact gTuple_T | with_reducible exact gMax_N | with_reducible exact gMin_N | with_reducible exact gInt_B | with_reducible exact gAll_c | with_reducible exact gAll_m | with_reducible exact gAny_m | with_reducible assumption)
  | ((with_reducible apply opA_it); exact rfl; exact Sq.len (by with_reducible assumption))
  | ((with_reducible apply opA_nl); exact rfl; exact Sq.lst (by with_reducible assumption))
  | ((with_reducible apply opA_tupSq); exact rfl; with_reducible assumption)
  | ((with_reducible apply opA_nl); exact rfl; first | with_reducible exact gList_L | with_reducible exact gList_T | with_reducible exact gList_pr)
  | ((with_reducible apply opA_nt); exact rfl; first | with_reducible exact gTuple_L)
  | ((with_reducible apply callQ_sh); exact rfl; with_reducible assumption; exact rfl; (try dsimp only [List.set_cons_zero, List.set_cons_succ, frOf_f, frOf_t, List.cons_append, List.nil_append]))
  | ((with_reducible apply callQ_fr); exact rfl; with_reducible assumption; exact rfl; (try dsimp only [List.set_cons_zero, List.set_cons_succ, frOf_f, frOf_t, List.cons_append, List.nil_append]))
  | ((with_reducible apply callQ_sh); exact rfl; (apply_assumption -symm -exfalso (transparency := .reducible) only [*] <;> first | with_reducible assumption | omega); exact rfl; (try dsimp only [List.set_cons_zero, List.set_cons_succ, frOf_f, frOf_t, List.cons_append, List.nil_append]))
  | ((with_reducible apply callQ_fr); exact rfl; (apply_assumption -symm -exfalso (transparency := .reducible) only [*] <;> first | with_reducible assumption | omega); exact rfl; (try dsimp only [List.set_cons_zero, List.set_cons_succ, frOf_f, frOf_t, List.cons_append, List.nil_append]))
  | ((with_reducible apply chQ); exact rfl; exact rfl; first | with_reducible exact gLt_N | with_reducible exact gLe_N | with_reducible exact gGt_N | with_reducible exact gGe_N | with_reducible exact gEq_N | with_reducible exact gNe_N)
  | ((with_reducible apply retQ); exact rfl; exact rfl)
  | ((with_reducible apply sqQ_Sq); exact rfl; with_reducible assumption; exact rfl; (try dsimp only [List.set_cons_zero, List.set_cons_succ, frOf_f, frOf_t, List.cons_append, List.nil_append]))
  | ((with_reducible apply sqQ_t); exact rfl; exact rfl; (try dsimp only [List.set_cons_zero, List.set_cons_succ, frOf_f, frOf_t, List.cons_append, List.nil_append]))
  | ((with_reducible apply sqQ_l); exact rfl; exact rfl; (try dsimp only [List.set_cons_zero, List.set_cons_succ, frOf_f, frOf_t, List.cons_append, List.nil_append]))
  | ((with_reducible apply datQ); exact rfl)
  | with_reducible apply st_for
  | with_reducible apply ex_callB'
  | ((with_reducible apply callB); exact rfl; exact rfl; decide; exact rfl; exact rfl)
  | ((with_reducible apply callB_strewn); exact rfl; exact rfl; exact rfl; decide; exact rfl)
  | ((with_reducible apply callB_atom); exact rfl; exact rfl; decide; exact rfl)
  | ((with_reducible apply sl_Tlo); exact rfl)
  | ((with_reducible apply sl_Thi); exact rfl)
  | ((with_reducible apply sl_Llo); exact rfl)
  | ((with_reducible apply sl_Lhi); exact rfl)
  | ((with_reducible apply sl_Plo); exact rfl)
  | ((with_reducible apply sl_llo); exact rfl)
  | ((with_reducible apply sl_lhi); exact rfl)
  | ((with_reducible apply lcQ); exact rfl; (first | exact enN _ | exact rfl); (first | omega | (simp; omega) | (simp; done)); (intro x hx; (try simp only [List.mem_range] at hx)))
  | ((with_reducible apply tstQ); exact rfl)
  | exact eltQ rfl rfl rfl
  | ((with_reducible apply backQ); exact rfl)
  | with_reducible apply exi_seq
  | with_reducible apply exi_enum
  | with_reducible apply exi_rng1
  | with_reducible apply exi_rng2
  | ((with_reducible apply rg1); omega)
  | ((with_reducible apply rg2); omega; omega)
  | with_reducible apply exo_none
  | with_reducible apply exo_some
  | ((with_reducible apply intQ); exact rfl)
  | ((with_reducible apply lr1N); exact rfl; omega)
  | ((with_reducible apply lr2N); exact rfl; exact rfl; omega; omega)
  | ((with_reducible apply exg_name); (try dsimp only [wipeE, List.set_cons_zero, List.set_cons_succ, frOf_f, frOf_t, List.cons_append, List.nil_append]))
  | with_reducible apply exg_pr
  | ((with_reducible apply exg_tupT); exact rfl)
  | ((with_reducible apply exg_tupL); exact rfl)
  | ((with_reducible apply exgs_nil); try dsimp only [List.set_cons_zero, List.set_cons_succ, frOf_f, frOf_t, List.cons_append, List.nil_append])
  | with_reducible apply exgs_cons
  | ((with_reducible apply two_t); exact rfl)
  | ((with_reducible apply two_f); exact rfl)
  | ((with_reducible apply two_t); (simp only [decide_eq_true_eq, decide_eq_false_iff_not, Bool.not_eq_true', Bool.not_eq_false', Bool.and_eq_true, Bool.or_eq_true, Bool.and_eq_false_iff, Bool.or_eq_false_iff, eq_self, and_self, not_true_eq_false, not_false_eq_true] <;> omega))
  | ((with_reducible apply two_f); (simp only [decide_eq_true_eq, decide_eq_false_iff_not, Bool.not_eq_true', Bool.not_eq_false', Bool.and_eq_true, Bool.or_eq_true, Bool.and_eq_false_iff, Bool.or_eq_false_iff, eq_self, and_self, not_true_eq_false, not_false_eq_true] <;> omega))
  | ((with_reducible apply two_d) <;> intro _)
  | ((with_reducible apply two_n) <;> intro _)
  | ((with_reducible apply two_g) <;> (intro h; (try simp only [Bool.and_eq_true, Bool.or_eq_true, Bool.and_eq_false_iff, Bool.or_eq_false_iff, decide_eq_true_eq, decide_eq_false_iff_not, Bool.not_eq_true', Bool.not_eq_false'] at h)))
  | ((with_reducible apply imp); (intro h; (try simp only [decide_eq_true_eq, decide_eq_false_iff_not, Bool.not_eq_true', Bool.not_eq_false'] at h)))
  | ((with_reducible apply impF); (intro h; (try simp only [decide_eq_true_eq, decide_eq_false_iff_not, Bool.not_eq_true', Bool.not_eq_false'] at h)))
  | with_reducible apply samQ
  | with_reducible apply eqQ
  | with_reducible exact ⟨rfl, rfl⟩
  | with_reducible exact rfl)
def F_mirrored : FS := toF 1 3 none (fseq (fset [1] (f1 (fcall none F_people_of (fcons (fvar 0) fnil))))
    (fret (fopA gTuple (fcons (flc [2] (fiseq (fop2 gAdd (fslice (fvar 0) (fosome (fvar 1)) fonone) (fslice (fvar 0) fonone (fosome (fvar 1))))) (bname 2) ftrue (fop2 gMod (fop2 gAdd (fvar 2) (fvar 1)) (fop2 gMul (fc (.int 2)) (fvar 1)))) fnil))))
def F_upper_end_from : FS := toF 4 5 none (fseq (fset [4] (f1 (fop2 gIx (fvar 0) (fvar 3))))
    (fseq (whileD (fbool (fop2 gGe (fvar 4) (fvar 2))) (fseq (fset [4] (f1 (fop2 gIx (fvar 1) (fop2 gSub (fvar 4) (fvar 2)))))
    (fseq (fifS (fbool (fop2 gGe (fvar 4) (fvar 2))) (fret (fvar 4)) fskip)
    (fset [4] (f1 (fop2 gIx (fvar 0) (fop2 gAdd (fvar 2) (fvar 4))))))) 1000000)
    (fret (fvar 4))))
def F_followed : FS := toF 2 7 none (fseq (fset [2] (f1 (fcall none F_people_of (fcons (fvar 0) fnil))))
    (fseq (fdrop (fcall none F_look_size (fcons (fvar 2) (fcons (fcall none F_people_of (fcons (fvar 1) fnil)) fnil))))
    (fseq (fset [3] (f1 (fop2 gAdd (flc [4] (firng1 (fcons (fvar 2) fnil)) (bname 4) ftrue (fcall none F_upper_end_from (fcons (fvar 0) (fcons (fvar 1) (fcons (fvar 2) (fcons (fvar 4) fnil)))))) (frep (flst (fcons (fc (.int 0)) fnil)) (fvar 2)))))
    (fseq (ffor (firng1 (fcons (fvar 2) fnil)) (bname 4) (fifS (fbool (fop2 gGe (fop2 gIx (fvar 3) (fvar 4)) (fvar 2))) (fasg (bsub 3 (fop2 gIx (fvar 3) (fvar 4))) (fvar 4)) fskip))
    (fseq (fset [5] (f1 (ftup (fcons (fcall none F_mirrored (fcons (fvar 1) fnil)) (fcons (fcall none F_mirrored (fcons (fvar 0) fnil)) fnil)))))
    (fseq (ffor (firng1 (fcons (fvar 2) fnil)) (bname 4) (fseq (fset [6] (f1 (fcall none F_upper_end_from (fcons (fop2 gIx (fvar 5) (fc (.int 0))) (fcons (fop2 gIx (fvar 5) (fc (.int 1))) (fcons (fvar 2) (fcons (fvar 4) fnil)))))))
    (fifS (fbool (fop2 gLt (fvar 6) (fvar 2))) (fasg (bsub 3 (fop2 gAdd (fvar 2) (fvar 4))) (fop2 gAdd (fvar 2) (fvar 6))) fskip)))
    (fret (fopA gTuple (fcons (fvar 3) fnil)))))))))
def F_times : FS := toF 2 5 none (fseq (fset [2, 3, 4] (fcons (fcall none F_empty_sheet (fcons (fcall none F_people_of (fcons (fvar 0) fnil)) fnil)) (fcons (fopA gTuple (fcons (fvar 0) fnil)) (fcons (fvar 1) fnil))))
    (fseq (whileD (fbool (fop2 gGt (fvar 4) (fc (.int 0)))) (fseq (fifS (fbool (fop2 gEq (fop2 gMod (fvar 4) (fc (.int 2))) (fc (.int 1)))) (fset [2] (f1 (fcall none F_followed (fcons (fvar 2) (fcons (fvar 3) fnil))))) fskip)
    (fset [3, 4] (fcons (fcall none F_followed (fcons (fvar 3) (fcons (fvar 3) fnil))) (fcons (fop2 gFdiv (fvar 4) (fc (.int 2))) fnil)))) 1000000)
    (fret (fvar 2))))
theorem mirrored_spec {n : Nat} {s : List Nat} (J : Joined (2 * n) s) (h0 : 0 < n) (hn : n ≤ 1000) : F_mirrored [.tuple (Ns s)] = some ⟨false, .tuple (Ns (mir n s)), []⟩ := by
  have hl := J.len
  have c1 := people_spec hl hn
  refine Cl.eq ?_
  unfold F_mirrored
  repeat' (first | infer_instance | fail)
  rw [show (List.map (fun x => (x + n) % (2 * n)) (List.drop n s ++ List.take n s)) = mir n s from ?_]
  refine gt_ext (by simp; omega) (mir_len n s) fun e he => ?_
  have g : gt (List.drop n s ++ List.take n s) e = gt s (fl n e) := by
    unfold gt fl
    rw [List.getD_eq_getElem?_getD, List.getD_eq_getElem?_getD]
    by_cases q : e < n
    · rw [List.getElem?_append_left (by simp; omega), List.getElem?_drop, if_pos q, Nat.add_comm]
    · rw [List.getElem?_append_right (by simp; omega), List.length_drop, List.getElem?_take_of_lt (by omega), if_neg q, show e - (s.length - n) = e - n by omega]
  have := J.lt (fl_lt he)
  rw [mir_get he, gt_of (x := (gt s (fl n e) + n) % (2 * n))]
  · generalize gt s (fl n e) = y at *
    unfold fl
    split
    · rw [Nat.mod_eq_of_lt (by omega)]
    · rw [Nat.mod_eq_sub_mod (by omega), Nat.mod_eq_of_lt (by omega)]; omega
  · rw [List.getElem?_map, gt_some (by simp; omega), g]; rfl
/-- where one goes from an upper end through two sheets -/
theorem upper_end_spec {n e : Nat} {a b : List Nat} (Ja : Joined (2 * n) a) (Jb : Joined (2 * n) b) (hn : n ≤ 1000) (he : e < n) :
    ∃ r, F_upper_end_from [.tuple (Ns a), .tuple (Ns b), N n, N e] = some ⟨false, N r, []⟩ ∧ r < 2 * n ∧ r ≠ e ∧ Conn n [a, b] (out n 2 e) (out n 2 r) := by
  suffices H : Cl F_upper_end_from [.tuple (Ns a), .tuple (Ns b), N n, N e] fun q => ∃ r, q = ⟨false, N r, []⟩ ∧ r < 2 * n ∧ r ≠ e ∧ Conn n [a, b] (out n 2 e) (out n 2 r) by
    obtain ⟨q, h1, r, rfl, h2⟩ := H
    exact ⟨r, h1, h2⟩
  have hla := Ja.len
  have hlb := Jb.len
  have A := allJ2 Ja Jb
  have v : Vd n [a, b].length (out n 2 e) := out_vd (k := 2) (by omega) (by omega)
  have ho : tie n [a, b].length (out n 2 e) = none := out_tie (k := 2) (by omega)
  have h0 : out n 2 e = (0, e) := by unfold out; rw [if_pos he]
  have fin : ∀ t p r, W n [a, b] (out n 2 e) t = some p → al [a, b] p = out n 2 r → r < 2 * n ∧ r ≠ e ∧ Conn n [a, b] (out n 2 e) (out n 2 r) := fun t p r h1 h2 => by
    have h3 := W_conn A v t p h1
    have h4 := W_ne A v ho h1
    have h5 := (al_vd A (W_vd A v t p h1)).2
    rw [h2] at h4 h5
    refine ⟨?_, fun q => h4 (by rw [q]), by rw [← h2]; exact .join h3⟩
    unfold out at h5; split at h5 <;> exact h5
  unfold F_upper_end_from
  infer_instance
  infer_instance
  repeat' (first | infer_instance | fail)
  refine st_while (4 * n) (fun m ρ => ∃ k y, W n [a, b] (out n 2 e) (2 * k) = some (0, y) ∧ m + 2 * k = 4 * n ∧ ρ = [sh (.tuple (Ns a)), sh (.tuple (Ns b)), sh (N n), sh (N e), sh (N (gt a y))]) ⟨0, e, by rw [h0]; rfl, by omega, rfl⟩ (by omega) ?_
  rintro m ρ ⟨k, y, hW, hm, rfl⟩
  have hv := W_vd A v _ _ hW
  have hy : y < 2 * n := hv.2
  have hx := Ja.lt hy
  have hk := W_few A v ho hW
  simp at hk
  have hW1 : n ≤ gt a y → W n [a, b] (out n 2 e) (2 * k + 1) = some (1, gt a y - n) := fun q => by
    unfold W
    rw [hW, Option.bind_some]
    show tie n 2 (0, gt a y) = _
    unfold tie
    simp only
    rw [if_neg (by omega), if_pos (by omega)]
  have hW2 : n ≤ gt a y → gt b (gt a y - n) < n → W n [a, b] (out n 2 e) (2 * (k + 1)) = some (0, n + gt b (gt a y - n)) := fun q q2 => by
    rw [show 2 * (k + 1) = (2 * k + 1) + 1 by omega]
    unfold W
    rw [hW1 q, Option.bind_some]
    show tie n 2 (1, gt b (gt a y - n)) = _
    unfold tie
    simp only
    rw [if_pos q2, if_neg (by omega)]
  have f0 : gt a y < n → gt a y < 2 * n ∧ gt a y ≠ e ∧ Conn n [a, b] (out n 2 e) (out n 2 (gt a y)) := fun q => fin _ _ _ hW (by unfold out; rw [if_pos q]; rfl)
  have f1 : n ≤ gt a y → n ≤ gt b (gt a y - n) → gt b (gt a y - n) < 2 * n ∧ gt b (gt a y - n) ≠ e ∧ Conn n [a, b] (out n 2 e) (out n 2 (gt b (gt a y - n))) := fun q q2 => fin _ _ _ (hW1 q) (by unfold out; rw [if_neg (by omega)]; rfl)
  repeat' (first | infer_instance | fail)
  · exact ⟨_, rfl, f1 (by assumption) (by omega)⟩
  · have q2 : gt b (gt a y - n) < n := by omega
    have hk2 := W_few A v ho (hW2 (by assumption) q2)
    simp at hk2
    exact ⟨m - 2, by omega, k + 1, _, hW2 (by assumption) q2, by omega, rfl⟩
  · exact ⟨_, rfl, f0 (by omega)⟩
theorem look_size_spec {n : Nat} : F_look_size [N n, N n] = some ⟨false, .none, []⟩ := by
  refine Cl.eq ?_
  unfold F_look_size
  repeat' (first | infer_instance | fail)
theorem followed_spec {n : Nat} {a b : List Nat} (Ja : Joined (2 * n) a) (Jb : Joined (2 * n) b) (h0 : 0 < n) (hn : n ≤ 1000) :
    ∃ c, F_followed [.tuple (Ns a), .tuple (Ns b)] = some ⟨false, .tuple (Ns c), []⟩ ∧ Comp n [a, b] c := by
  suffices H : Cl F_followed [.tuple (Ns a), .tuple (Ns b)] fun q => ∃ c, q = ⟨false, .tuple (Ns c), []⟩ ∧ Comp n [a, b] c by
    obtain ⟨q, h1, c, rfl, h2⟩ := H
    exact ⟨c, h1, h2⟩
  have ca := people_spec Ja.len hn
  have cb := people_spec Jb.len hn
  have cs := look_size_spec (n := n)
  have Ma := mir_joined Ja
  have Mb := mir_joined Jb
  have ma := mirrored_spec Ja h0 hn
  have mb := mirrored_spec Jb h0 hn
  obtain ⟨u, hu⟩ := skolem fun e he => upper_end_spec (e := e) Ja Jb hn he
  obtain ⟨l, hl⟩ := skolem fun e he => upper_end_spec (e := e) Mb Ma hn he
  have hu1 := fun e he => (hu e he).1
  have hl1 := fun e he => (hl e he).1
  have A := allJ2 Ja Jb
  have udis : ∀ i j, i < n → j < n → n ≤ u i → u i = u j → i = j := fun i j hi hj h e => by
    refine Classical.byContradiction fun hne => ?_
    obtain ⟨_, h1, h2, h3⟩ := hu i hi
    obtain ⟨_, h1', h2', h3'⟩ := hu j hj
    have v1 : Vd n [a, b].length (out n 2 i) := out_vd (k := 2) (by omega) (by omega)
    have v2 : Vd n [a, b].length (out n 2 j) := out_vd (k := 2) (by omega) (by omega)
    rw [← e] at h3'
    have h4 := h3.trans (h3'.symm A v2)
    have := Conn.uniq A v1 (out_tie (k := 2) (by omega)) h3 h4 (out_tie (k := 2) (by omega)) (out_tie (k := 2) (by omega)) (fun q => h2 (out_inj q)) (fun q => hne (out_inj q).symm)
    have := out_inj this
    omega
  unfold F_followed
  repeat' (first | infer_instance | fail)
  refine forQ_rng (fun j ρ => ∃ x fs, ρ = [sh (.tuple (Ns a)), sh (.tuple (Ns b)), sh (N n), ow (.list (Ns fs)), x, none, none] ∧ fs.length = 2 * n ∧ (∀ i, i < n → gt fs i = u i) ∧ ∀ i, i < j → n ≤ u i → gt fs (u i) = i) rfl ⟨none, _, rfl, by simp; omega, ?_, fun i hi => absurd hi (by omega)⟩ ?_ ?_
  · intro i hi
    apply gt_of
    rw [List.getElem?_append_left (by simpa using hi), List.getElem?_map, List.getElem?_range hi]; rfl
  · rintro j ρ hj ⟨x, fs, rfl, h1, h2, h3⟩
    have e1 := h2 j hj
    have e2 := (hu j hj).2.1
    repeat' (first | infer_instance | fail)
    · refine ⟨_, _, rfl, by simpa using h1, fun i hi => ?_, fun i hi h => ?_⟩
      · rw [gt_set _ (by omega), if_neg (by omega)]; exact h2 i hi
      · rw [gt_set _ (by omega)]
        by_cases q : i = j
        · subst q; rw [if_pos e1.symm]
        · rw [if_neg fun z => q (udis i j (by omega) hj h (by omega))]
          exact h3 i (by omega) h
    · refine ⟨_, _, rfl, h1, h2, fun i hi h => ?_⟩
      by_cases q : i = j
      · subst q; omega
      · exact h3 i (by omega) h
  rintro ρ ⟨x, fs, rfl, h1, h2, h3⟩
  repeat' (first | infer_instance | fail)
  refine forQ_rng (fun j ρ => ∃ x y gs, ρ = [sh (.tuple (Ns a)), sh (.tuple (Ns b)), sh (N n), ow (.list (Ns gs)), x, sh (.tuple [.tuple (Ns (mir n b)), .tuple (Ns (mir n a))]), y] ∧ gs.length = 2 * n ∧ (∀ i, i < n → gt gs i = u i) ∧ (∀ i, i < j → l i < n → gt gs (n + i) = n + l i) ∧ ∀ i, i < n → (j ≤ i ∨ n ≤ l i) → gt gs (n + i) = gt fs (n + i)) rfl ⟨_, _, fs, rfl, h1, h2, fun i hi => absurd hi (by omega), fun i hi _ => rfl⟩ ?_ ?_
  · rintro j ρ hj ⟨x, y, gs, rfl, g1, g2, g3, g4⟩
    repeat' (first | infer_instance | fail)
    · refine ⟨_, _, _, rfl, by simpa using g1, fun i hi => ?_, fun i hi h => ?_, fun i hi h => ?_⟩
      · rw [gt_set _ (by omega), if_neg (by omega)]; exact g2 i hi
      · rw [gt_set _ (by omega)]
        by_cases q : i = j
        · subst q; rw [if_pos rfl]
        · rw [if_neg (by omega)]; exact g3 i (by omega) h
      · rw [gt_set _ (by omega)]
        by_cases q : i = j
        · subst q; omega
        · rw [if_neg (by omega)]; exact g4 i hi (by omega)
    · refine ⟨_, _, _, rfl, g1, g2, fun i hi h => ?_, fun i hi h => ?_⟩
      · by_cases q : i = j
        · subst q; omega
        · exact g3 i (by omega) h
      · refine g4 i hi ?_
        by_cases q : i = j
        · subst q; right; omega
        · omega
  rintro ρ ⟨x, y, gs, rfl, g1, g2, g3, g4⟩
  repeat' (first | infer_instance | fail)
  refine ⟨gs, rfl, g1, fun e he => ?_⟩
  by_cases q : e < n
  · rw [g2 e q]
    exact (hu e q).2
  · obtain ⟨i, rfl⟩ : ∃ i, e = n + i := ⟨e - n, by omega⟩
    have hi : i < n := by omega
    obtain ⟨-, k1, k2, k3⟩ := hl i hi
    -- the same from below
    have k4 : Conn n [a, b] (out n 2 (n + i)) (out n 2 (fl n (l i))) := by
      have B := allJ2 Mb Ma
      have := Conn.map (L := [mir n b, mir n a]) (L' := [a, b]) (fun p => (1 - p.1, fl n p.2)) B (fun p v => ?_) (fun p q v e => ?_) (out_vd (k := 2) (by omega) (by omega)) k3
      · have o : ∀ z, z < 2 * n → ((1 - (out n 2 z).1, fl n (out n 2 z).2) : Pt) = out n 2 (fl n z) := fun z hz => by
          unfold out fl
          by_cases q : z < n
          · simp [q]
          · simp [q]; omega
        rw [o _ (by omega), o _ k1, show fl n i = n + i by unfold fl; rw [if_pos hi]; omega] at this
        exact this
      · have : ((1 - (al [mir n b, mir n a] p).1, fl n (al [mir n b, mir n a] p).2) : Pt) = al [a, b] (1 - p.1, fl n p.2) := by
          obtain ⟨z, w⟩ := p
          have hz : z < 2 := v.1
          have hw : w < 2 * n := v.2
          have : z = 0 ∨ z = 1 := by omega
          rcases this with rfl | rfl
          · show ((1, fl n (gt (mir n b) w)) : Pt) = (1, gt b (fl n w))
            rw [mir_get hw, fl_fl (Jb.lt (fl_lt hw))]
          · show ((0, fl n (gt (mir n a) w)) : Pt) = (0, gt a (fl n w))
            rw [mir_get hw, fl_fl (Ja.lt (fl_lt hw))]
        show Conn n _ _ ((1 - (al [mir n b, mir n a] p).1, fl n (al [mir n b, mir n a] p).2) : Pt)
        rw [this]; exact .join .refl
      · refine .tie .refl ?_
        obtain ⟨z, w⟩ := p
        have hz : z < 2 := v.1
        have hw : w < 2 * n := v.2
        unfold tie fl at *
        simp only [List.length_cons, List.length_nil] at *
        by_cases q1 : w < n
        · rw [if_pos q1] at e
          by_cases q2 : z = 0
          · rw [if_pos q2] at e; cases e
          · rw [if_neg q2] at e; cases e
            simp only
            rw [if_pos q1, if_neg (by omega), if_pos (by omega), if_neg (by omega)]
            congr 2 <;> omega
        · rw [if_neg q1] at e
          by_cases q2 : z + 1 < 2
          · rw [if_pos q2] at e; cases e
            simp only
            rw [if_neg q1, if_pos (by omega), if_neg (by omega), if_pos (by omega)]
            congr 2 <;> omega
          · rw [if_neg q2] at e; cases e
    by_cases q3 : l i < n
    · rw [g3 i hi q3]
      rw [show fl n (l i) = n + l i by unfold fl; rw [if_pos q3]; omega] at k4
      exact ⟨by omega, by omega, k4⟩
    · have q4 : fl n (l i) = l i - n := by unfold fl; rw [if_neg q3]
      have q5 : l i - n < n := by omega
      rw [q4] at k4
      obtain ⟨-, p1, p2, p3⟩ := hu _ q5
      have v1 : Vd n [a, b].length (out n 2 (n + i)) := out_vd (k := 2) (by omega) (by omega)
      have v2 : Vd n [a, b].length (out n 2 (l i - n)) := out_vd (k := 2) (by omega) (by omega)
      have k5 : u (l i - n) = n + i := out_inj (Conn.uniq A v2 (out_tie (k := 2) (by omega)) p3 (k4.symm A v1) (out_tie (k := 2) (by omega)) (out_tie (k := 2) (by omega)) (fun q => p2 (out_inj q)) (fun q => by have := out_inj q; omega))
      rw [g4 i hi (by omega), ← k5, h3 _ q5 (by omega)]
      rw [k5]
      exact ⟨by omega, by omega, k4⟩
end Sh
set_option Elab.async false
set_option linter.all false
set_option maxRecDepth 100000
set_option maxHeartbeats 4000000
namespace Sh
open PySem PySem.Spec PyProof.Rows L2 DL
local macro_rules | `(tactic| infer_instance) => `(tactic| first
  | with_reducible apply st_seq
  | ((with_reducible apply cl_toF); (simp +decide only [en0, enA, List.length_cons, List.length_nil, List.cons_append, List.nil_append, List.replicate, ↓reduceIte, Nat.reduceAdd, Nat.reduceSub, Nat.zero_add] <;> exact rfl); exact rfl)
  | with_reducible apply st_set
  | with_reducible apply st_ph
  | with_reducible apply pst_set
  | ((with_reducible apply psetQ); (first | (simp [allFrL]; done) | (simp [allFrL]; omega) | (simp [allFrL, Ts]; omega)); exact rfl; exact rfl; (try dsimp only [List.set_cons_zero, List.set_cons_succ, frOf_f, frOf_t, List.cons_append, List.nil_append]))
  | ((with_reducible apply pst_if); exact rfl)
  | ((with_reducible apply pst_mut); exact rfl; (simp; done); decide)
  | with_reducible apply pst_end
  | with_reducible apply st_asg
  | with_reducible apply st_if
  | with_reducible apply st_ret
  | with_reducible apply st_drop
  | with_reducible apply st_skip
  | with_reducible apply st_retN
  | with_reducible apply exa_nil
  | with_reducible apply exa_cons
  | with_reducible apply exa_f1
  | with_reducible apply exa_perm
  | with_reducible apply exa_app
  | ((with_reducible apply ex_var_sh); exact rfl)
  | ((with_reducible apply ex_var_al); exact rfl; decide)
  | with_reducible apply ex_fc0 | with_reducible apply ex_fc1 | with_reducible apply ex_fc2 | with_reducible apply ex_fc3 | with_reducible apply ex_fc4 | with_reducible apply ex_fc5 | with_reducible apply ex_fc6 | with_reducible apply ex_fc7 | with_reducible apply ex_fc8 | with_reducible apply ex_fc9 | with_reducible apply ex_fc10 | with_reducible apply ex_fc11 | with_reducible apply ex_fc12 | with_reducible apply ex_fc14 | with_reducible apply ex_fc16 | with_reducible apply ex_fc18 | with_reducible apply ex_fc20 | with_reducible apply ex_fc21 | with_reducible apply ex_fc26 | with_reducible apply ex_fc30 | with_reducible apply ex_fc40 | with_reducible apply ex_fc41 | with_reducible apply ex_fc50 | with_reducible apply ex_fc60 | with_reducible apply ex_fc61 | with_reducible apply ex_fc80 | with_reducible apply ex_fc100 | with_reducible apply ex_fc300 | with_reducible apply ex_fc400
  | with_reducible apply ex_fc
  | with_reducible apply ex_op2
  | with_reducible apply ex_opA
  | with_reducible apply ex_op1
  | with_reducible apply ex_tup
  | with_reducible apply ex_lst
  | with_reducible apply ex_fdctT
  | with_reducible apply ex_fdctK
  | ((with_reducible apply exg_putQ); exact rfl; decide)
  | ((with_reducible apply op2_it); exact rfl; exact rfl; with_reducible exact nin_Td)
  | ((with_reducible apply opA_it); exact rfl; with_reducible exact len_Td)
  | with_reducible apply ex_call
  | with_reducible apply ex_lc
  | with_reducible apply ex_rep
  | ((with_reducible apply repQ_2); exact rfl)
  | ((with_reducible apply repQ_3); exact rfl)
  | ((with_reducible apply repAQ_P); exact rfl; decide; exact rfl; omega; omega)
  | ((with_reducible apply repQ_N); exact rfl; omega)
  | ((with_reducible apply nrm); (try simp only [filt_true, map_Ns, map_Ps, map_Ps', List.map_id_fun', List.map_id']))
  | ((with_reducible apply ex_meth); exact rfl; decide)
  | ((with_reducible apply methQ); exact rfl; exact rfl; exact rfl; decide; (first | ((with_reducible apply gAppend_N); (first | omega | (simp only [List.length_set, List.length_append, List.length_map, List.length_range, List.length_replicate, List.length_cons, List.length_nil, Ns_len, Ps_len]; omega) | (simp; omega))) | ((with_reducible apply gAppend_d); (first | omega | (simp only [List.length_set, List.length_append, List.length_map, List.length_range, List.length_replicate, List.length_cons, List.length_nil, Ns_len, Ps_len]; omega) | (simp; omega))) | with_reducible assumption); (try dsimp only [List.set_cons_zero, List.set_cons_succ, frOf_f, frOf_t, List.cons_append, List.nil_append]))
  | ((with_reducible apply exg_subQ); exact rfl; decide)
  | ((with_reducible apply subQ_N); exact rfl; exact rfl; decide; (first | omega | (simp only [List.length_set, List.length_append, List.length_map, List.length_range, List.length_replicate]; omega) | (simp; omega)); (try dsimp only [List.set_cons_zero, List.set_cons_succ, frOf_f, frOf_t, List.cons_append, List.nil_append]))
  | with_reducible apply ex_slice
  | with_reducible apply ex_chain
  | with_reducible apply ex_lrg1
  | with_reducible apply ex_lrg2
  | with_reducible apply ex_and
  | with_reducible apply ex_or
  | with_reducible apply ex_not
  | with_reducible apply ex_if
  | with_reducible apply ext_bool
  | with_reducible apply ext_not
  | with_reducible apply ext_and
  | with_reducible apply ext_andI
  | with_reducible apply ext_orI
  | with_reducible apply ex_andJ
  | with_reducible apply ex_repA
  | with_reducible apply ext_or
  | with_reducible apply ext_true
  | ((with_reducible apply setQ); exact rfl; exact rfl; exact rfl; (try dsimp only [List.set_cons_zero, List.set_cons_succ, frOf_f, frOf_t, List.cons_append, List.nil_append]))
  | ((with_reducible apply seqQ); exact rfl; exact rfl; (try dsimp only [List.set_cons_zero, List.set_cons_succ, frOf_f, frOf_t, List.cons_append, List.nil_append]))
  | ((with_reducible apply asgQ); exact rfl; exact rfl)
  | with_reducible apply boolQ
  | ((with_reducible apply op2_it); exact rfl; exact rfl; first | with_reducible exact gAdd_N | ((with_reducible apply gSub_N) <;> omega) | ((with_reducible apply gSub_N); (apply_assumption -symm -exfalso (transparency := .reducible) only [*] <;> first | with_reducible assumption | omega)) | ((with_reducible apply gMul_N) <;> omega) | ((with_reducible apply gFdiv_N) <;> omega) | ((with_reducible apply gMod_N) <;> omega) | with_reducible exact gLt_N | with_reducible exact gLe_N | with_reducible exact gGt_N | with_reducible exact gGe_N | with_reducible exact gEq_N | with_reducible exact gNe_N | ((with_reducible apply gIx_T) <;> omega) | ((with_reducible apply gIx_L) <;> omega) | ((with_reducible apply gIx_T); (apply_assumption -symm -exfalso (transparency := .reducible) only [*] <;> first | with_reducible assumption | omega)) | ((with_reducible apply gIx_L); (apply_assumption -symm -exfalso (transparency := .reducible) only [*] <;> first | with_reducible assumption | omega)) | with_reducible exact gIx_pr0 | with_reducible exact gIx_p0 | with_reducible exact gIx_p1 | with_reducible exact gIx_pr1 | with_reducible exact gIx_l0 | with_reducible exact gIx_l1 | with_reducible exact gEq_T | with_reducible exact gNe_T | with_reducible exact gEq_L | with_reducible exact gNe_L | with_reducible exact gNe_Lnil | with_reducible exact gIs_non | with_reducible exact gNis_non | with_reducible exact gNis_B | with_reducible exact gIs_B | with_reducible exact gEq_str | with_reducible exact gEq_non | with_reducible exact gNe_str | with_reducible exact gAdd_I | with_reducible exact gSub_I | with_reducible exact gEq_I | with_reducible exact gNe_I | with_reducible exact gLt_I | with_reducible exact gLe_I | with_reducible exact gGt_I | with_reducible exact gGe_I | with_reducible exact gEq_B | with_reducible exact gNe_B | with_reducible assumption)
  | ((with_reducible apply op2_it); exact rfl; exact rfl; (refine Sq.ix (by with_reducible assumption) ?_); first | omega | with_reducible assumption)
  | ((with_reducible apply op2_it); exact rfl; exact rfl; with_reducible exact gIx_last)
  | ((with_reducible apply op2_it); exact rfl; exact rfl; with_reducible exact gIx_lastd)
  | ((with_reducible apply op2_it); exact rfl; exact rfl; with_reducible exact gIx_last2)
  | ((with_reducible apply op2_it); exact rfl; exact rfl; (with_reducible apply gIx_Lz); first | with_reducible assumption | (simp; done) | (apply_assumption -symm -exfalso (transparency := .reducible) only [*] <;> first | with_reducible assumption | omega))
  | ((with_reducible apply op2_catTN); exact rfl; exact rfl; (simp; omega))
  | ((with_reducible apply op2_catLN); exact rfl; exact rfl; (simp; omega))
  | ((with_reducible apply op2_nl); exact rfl; exact rfl; (first | ((with_reducible apply gAdd_L) <;> (first | omega | (simp; done) | (simp; omega))) | with_reducible assumption); (try dsimp only [List.cons_append, List.nil_append]))
  | ((with_reducible apply op1_it); exact rfl; first | with_reducible exact gNeg_N | ((with_reducible apply gIsi_x); first | exact rfl | with_reducible assumption) | ((with_reducible apply gIsi2_x); first | exact rfl | with_reducible assumption))
  | ((with_reducible apply opA_it); exact rfl; first | with_reducible exact gLen_T | with_reducible exact gLen_L | with_reducible exact gLen_l | with_reducible exact gLen_t | with_reducible exact gTuple_T | with_reducible exact gMax_N | with_reducible exact gMin_N | with_reducible exact gInt_B | with_reducible exact gAll_c | with_reducible exact gAll_m | with_reducible exact gAny_m | with_reducible assumption)
  | ((with_reducible apply opA_it); exact rfl; exact Sq.len (by with_reducible assumption))
  | ((with_reducible apply opA_nl); exact rfl; exact Sq.lst (by with_reducible assumption))
  | ((with_reducible apply opA_tupSq); exact rfl; with_reducible assumption)
  | ((with_reducible apply opA_nl); exact rfl; first | with_reducible exact gList_L | with_reducible exact gList_T | with_reducible exact gList_pr)
  | ((with_reducible apply opA_nt); exact rfl; first | with_reducible exact gTuple_L)
  | ((with_reducible apply callQ_sh); exact rfl; with_reducible assumption; exact rfl; (try dsimp only [List.set_cons_zero, List.set_cons_succ, frOf_f, frOf_t, List.cons_append, List.nil_append]))
  | ((with_reducible apply callQ_fr); exact rfl; with_reducible assumption; exact rfl; (try dsimp only [List.set_cons_zero, List.set_cons_succ, frOf_f, frOf_t, List.cons_append, List.nil_append]))
  | ((with_reducible apply callQ_sh); exact rfl; (apply_assumption -symm -exfalso (transparency := .reducible) only [*] <;> first | with_reducible assumption | omega); exact rfl; (try dsimp only [List.set_cons_zero, List.set_cons_succ, frOf_f, frOf_t, List.cons_append, List.nil_append]))
  | ((with_reducible apply callQ_fr); exact rfl; (apply_assumption -symm -exfalso (transparency := .reducible) only [*] <;> first | with_reducible assumption | omega); exact rfl; (try dsimp only [List.set_cons_zero, List.set_cons_succ, frOf_f, frOf_t, List.cons_append, List.nil_append]))
  | ((with_reducible apply chQ); exact rfl; exact rfl; first | with_reducible exact gLt_N | with_reducible exact gLe_N | with_reducible exact gGt_N | with_reducible exact gGe_N | with_reducible exact gEq_N | with_reducible exact gNe_N)
  | ((with_reducible apply retQ); exact rfl; exact rfl)
  | ((with_reducible apply sqQ_Sq); exact rfl; with_reducible assumption; exact rfl; (try dsimp only [List.set_cons_zero, List.set_cons_succ, frOf_f, frOf_t, List.cons_append, List.nil_append]))
  | ((with_reducible apply sqQ_t); exact rfl; exact rfl; (try dsimp only [List.set_cons_zero, List.set_cons_succ, frOf_f, frOf_t, List.cons_append, List.nil_append]))
  | ((with_reducible apply sqQ_l); exact rfl; exact rfl; (try dsimp only [List.set_cons_zero, List.set_cons_succ, frOf_f, frOf_t, List.cons_append, List.nil_append]))
  | ((with_reducible apply datQ); exact rfl)
  | with_reducible apply st_for
  | with_reducible apply ex_callB'
  | ((with_reducible apply callB); exact rfl; exact rfl; decide; exact rfl; exact rfl)
  | ((with_reducible apply callB_strewn); exact rfl; exact rfl; exact rfl; decide; exact rfl)
  | ((with_reducible apply callB_atom); exact rfl; exact rfl; decide; exact rfl)
  | ((with_reducible apply sl_Tlo); exact rfl)
  | ((with_reducible apply sl_Thi); exact rfl)
  | ((with_reducible apply sl_Llo); exact rfl)
  | ((with_reducible apply sl_Lhi); exact rfl)
  | ((with_reducible apply sl_Plo); exact rfl)
  | ((with_reducible apply sl_llo); exact rfl)
  | ((with_reducible apply sl_lhi); exact rfl)
  | ((with_reducible apply lcQ); exact rfl; (first | exact enN _ | exact rfl); (first | omega | (simp; omega) | (simp; done)); (intro x hx; (try simp only [List.mem_range] at hx)))
  | ((with_reducible apply tstQ); exact rfl)
  | exact eltQ rfl rfl rfl
  | ((with_reducible apply backQ); exact rfl)
  | with_reducible apply exi_seq
  | with_reducible apply exi_enum
  | with_reducible apply exi_rng1
  | with_reducible apply exi_rng2
  | ((with_reducible apply rg1); omega)
  | ((with_reducible apply rg2); omega; omega)
  | with_reducible apply exo_none
  | with_reducible apply exo_some
  | ((with_reducible apply intQ); exact rfl)
  | ((with_reducible apply lr1N); exact rfl; omega)
  | ((with_reducible apply lr2N); exact rfl; exact rfl; omega; omega)
  | ((with_reducible apply exg_name); (try dsimp only [wipeE, List.set_cons_zero, List.set_cons_succ, frOf_f, frOf_t, List.cons_append, List.nil_append]))
  | with_reducible apply exg_pr
  | ((with_reducible apply exg_tupT); exact rfl)
  | ((with_reducible apply exg_tupL); exact rfl)
  | ((with_reducible apply exgs_nil); try dsimp only [List.set_cons_zero, List.set_cons_succ, frOf_f, frOf_t, List.cons_append, List.nil_append])
  | with_reducible apply exgs_cons
  | ((with_reducible apply two_t); exact rfl)
  | ((with_reducible apply two_f); exact rfl)
  | ((with_reducible apply two_t); (simp only [decide_eq_true_eq, decide_eq_false_iff_not, Bool.not_eq_true', Bool.not_eq_false', Bool.and_eq_true, Bool.or_eq_true, Bool.and_eq_false_iff, Bool.or_eq_false_iff, eq_self, and_self, not_true_eq_false, not_false_eq_true] <;> omega))
  | ((with_reducible apply two_f); (simp only [decide_eq_true_eq, decide_eq_false_iff_not, Bool.not_eq_true', Bool.not_eq_false', Bool.and_eq_true, Bool.or_eq_true, Bool.and_eq_false_iff, Bool.or_eq_false_iff, eq_self, and_self, not_true_eq_false, not_false_eq_true] <;> omega))
  | ((with_reducible apply two_d) <;> intro _)
  | ((with_reducible apply two_n) <;> intro _)
  | ((with_reducible apply two_g) <;> (intro h; (try simp only [Bool.and_eq_true, Bool.or_eq_true, Bool.and_eq_false_iff, Bool.or_eq_false_iff, decide_eq_true_eq, decide_eq_false_iff_not, Bool.not_eq_true', Bool.not_eq_false'] at h)))
  | ((with_reducible apply imp); (intro h; (try simp only [decide_eq_true_eq, decide_eq_false_iff_not, Bool.not_eq_true', Bool.not_eq_false'] at h)))
  | ((with_reducible apply impF); (intro h; (try simp only [decide_eq_true_eq, decide_eq_false_iff_not, Bool.not_eq_true', Bool.not_eq_false'] at h)))
  | with_reducible apply samQ
  | with_reducible apply eqQ
  | with_reducible exact ⟨rfl, rfl⟩
  | with_reducible exact rfl)
theorem people_w {n : Nat} {A : D} {s : List Nat} (hA : Sq A s) (hl : s.length = 2 * n) : F_people_of [A] = some ⟨false, N n, []⟩ := by
  refine Cl.eq ?_
  unfold F_people_of
  repeat' (first | infer_instance | fail)
  rw [hl, show 2 * n / 2 = n by omega]
theorem empty_w {n : Nat} (hn : n ≤ 1000) : F_empty_sheet [N n] = some ⟨false, .tuple (Ns (idS n)), []⟩ := by
  refine Cl.eq ?_
  unfold F_empty_sheet
  repeat' (first | infer_instance | fail)
  rw [show (List.map (fun x => n + x) (List.range (2 * n - n)) ++ List.range n) = idS n from ?_]
  refine gt_ext (by simp; omega) (idS_len n) fun e he => ?_
  rw [idS_get he]
  apply gt_of
  unfold fl
  split
  · rw [List.getElem?_append_left (by simp; omega), List.getElem?_map, List.getElem?_range (by omega)]; simp; omega
  · rw [List.getElem?_append_right (by simp; omega), List.length_map, List.length_range, List.getElem?_range (by omega)]; congr 1; omega
theorem comp_ex {n : Nat} {a b : List Nat} (Ja : Joined (2 * n) a) (Jb : Joined (2 * n) b) (h0 : 0 < n) (hn : n ≤ 1000) : ∃ c, Comp n [a, b] c := by
  obtain ⟨c, -, h⟩ := followed_spec Ja Jb h0 hn
  exact ⟨c, h⟩
/-- so many times the same -/
def Pow (n : Nat) (a : List Nat) : Nat → List Nat → Prop
  | 0, s => s = idS n
  | m + 1, s => ∃ t, Pow n a m t ∧ Comp n [t, a] s
section
variable {n : Nat} {a : List Nat} (Ja : Joined (2 * n) a)
include Ja
theorem Pow.joined : ∀ {m : Nat} {s : List Nat}, Pow n a m s → Joined (2 * n) s
  | 0, s, h => by
    have : s = idS n := h
    rw [this]; exact idS_joined n
  | m + 1, s, ⟨t, h1, h2⟩ => h2.joined (allJ2 (Pow.joined h1) Ja) (by simp)
theorem Pow.uniq : ∀ {m : Nat} {s t : List Nat}, Pow n a m s → Pow n a m t → s = t
  | 0, s, t, h, h' => by
    have h1 : s = idS n := h
    have h2 : t = idS n := h'
    rw [h1, h2]
  | m + 1, s, t, ⟨x, h1, h2⟩, ⟨y, h3, h4⟩ => by
    have : x = y := Pow.uniq h1 h3
    subst this
    exact Comp.uniq (allJ2 (Pow.joined Ja h1) Ja) (by simp) h2 h4
theorem Pow.one : Pow n a 1 a := ⟨idS n, rfl, comp_id_left Ja⟩
variable (h0 : 0 < n) (hn : n ≤ 1000)
include h0 hn
theorem pow_ex : ∀ m : Nat, ∃ s, Pow n a m s
  | 0 => ⟨_, rfl⟩
  | m + 1 => by
    obtain ⟨t, ht⟩ := pow_ex m
    obtain ⟨s, hs⟩ := comp_ex (Pow.joined Ja ht) Ja h0 hn
    exact ⟨s, t, ht, hs⟩
theorem Pow.add {m : Nat} {s : List Nat} (hs : Pow n a m s) : ∀ {k : Nat} {t u : List Nat}, Pow n a k t → Comp n [s, t] u → Pow n a (m + k) u
  | 0, t, u, ht, hu => by
    have : t = idS n := ht
    subst this
    have Js := Pow.joined Ja hs
    have := Comp.uniq (allJ2 Js (idS_joined n)) (by simp) hu (comp_id_right Js)
    subst this; exact hs
  | k + 1, t, u, ⟨x, h1, h2⟩, hu => by
    have Js := Pow.joined Ja hs
    have Jx := Pow.joined Ja h1
    obtain ⟨w, hw⟩ := comp_ex Js Jx h0 hn
    have hp := Pow.add hs h1 hw
    have Jw := Pow.joined Ja hp
    obtain ⟨z, hz⟩ := comp_ex Jw Ja h0 hn
    have : z = u := comp_assoc Js Jx Ja hw hz h2 hu
    subst this
    exact ⟨w, hp, hz⟩
end
end Sh
set_option Elab.async false
set_option linter.all false
set_option maxRecDepth 100000
set_option maxHeartbeats 4000000
namespace Sh
open PySem PySem.Spec PyProof.Rows L2 DL
local macro_rules | `(tactic| infer_instance) => `(tactic| first
  | with_reducible apply st_seq
  | ((with_reducible apply cl_toF); (simp +decide only [en0, enA, List.length_cons, List.length_nil, List.cons_append, List.nil_append, List.replicate, ↓reduceIte, Nat.reduceAdd, Nat.reduceSub, Nat.zero_add] <;> exact rfl); exact rfl)
  | with_reducible apply st_set
  | with_reducible apply st_ph
  | with_reducible apply pst_set
  | ((with_reducible apply psetQ); (first | (simp [allFrL]; done) | (simp [allFrL]; omega) | (simp [allFrL, Ts]; omega)); exact rfl; exact rfl; (try dsimp only [List.set_cons_zero, List.set_cons_succ, frOf_f, frOf_t, List.cons_append, List.nil_append]))
  | ((with_reducible apply pst_if); exact rfl)
  | ((with_reducible apply pst_mut); exact rfl; (simp; done); decide)
  | with_reducible apply pst_end
  | with_reducible apply st_asg
  | with_reducible apply st_if
  | with_reducible apply st_ret
  | with_reducible apply st_drop
  | with_reducible apply st_skip
  | with_reducible apply st_retN
  | with_reducible apply exa_nil
  | with_reducible apply exa_cons
  | with_reducible apply exa_f1
  | with_reducible apply exa_perm
  | with_reducible apply exa_app
  | ((with_reducible apply ex_var_sh); exact rfl)
  | ((with_reducible apply ex_var_al); exact rfl; decide)
  | with_reducible apply ex_fc0 | with_reducible apply ex_fc1 | with_reducible apply ex_fc2 | with_reducible apply ex_fc3 | with_reducible apply ex_fc4 | with_reducible apply ex_fc5 | with_reducible apply ex_fc6 | with_reducible apply ex_fc7 | with_reducible apply ex_fc8 | with_reducible apply ex_fc9 | with_reducible apply ex_fc10 | with_reducible apply ex_fc11 | with_reducible apply ex_fc12 | with_reducible apply ex_fc14 | with_reducible apply ex_fc16 | with_reducible apply ex_fc18 | with_reducible apply ex_fc20 | with_reducible apply ex_fc21 | with_reducible apply ex_fc26 | with_reducible apply ex_fc30 | with_reducible apply ex_fc40 | with_reducible apply ex_fc41 | with_reducible apply ex_fc50 | with_reducible apply ex_fc60 | with_reducible apply ex_fc61 | with_reducible apply ex_fc80 | with_reducible apply ex_fc100 | with_reducible apply ex_fc300 | with_reducible apply ex_fc400
  | with_reducible apply ex_fc
  | with_reducible apply ex_op2
  | with_reducible apply ex_opA
  | with_reducible apply ex_op1
  | with_reducible apply ex_tup
  | with_reducible apply ex_lst
  | with_reducible apply ex_fdctT
  | with_reducible apply ex_fdctK
  | ((with_reducible apply exg_putQ); exact rfl; decide)
  | ((with_reducible apply op2_it); exact rfl; exact rfl; with_reducible exact nin_Td)
  | ((with_reducible apply opA_it); exact rfl; with_reducible exact len_Td)
  | with_reducible apply ex_call
  | with_reducible apply ex_lc
  | with_reducible apply ex_rep
  | ((with_reducible apply repQ_2); exact rfl)
  | ((with_reducible apply repQ_3); exact rfl)
  | ((with_reducible apply repAQ_P); exact rfl; decide; exact rfl; omega; omega)
  | ((with_reducible apply repQ_N); exact rfl; omega)
  | ((with_reducible apply nrm); (try simp only [filt_true, map_Ns, map_Ps, map_Ps', List.map_id_fun', List.map_id']))
  | ((with_reducible apply ex_meth); exact rfl; decide)
  | ((with_reducible apply methQ); exact rfl; exact rfl; exact rfl; decide; (first | ((with_reducible apply gAppend_N); (first | omega | (simp only [List.length_set, List.length_append, List.length_map, List.length_range, List.length_replicate, List.length_cons, List.length_nil, Ns_len, Ps_len]; omega) | (simp; omega))) | ((with_reducible apply gAppend_d); (first | omega | (simp only [List.length_set, List.length_append, List.length_map, List.length_range, List.length_replicate, List.length_cons, List.length_nil, Ns_len, Ps_len]; omega) | (simp; omega))) | with_reducible assumption); (try dsimp only [List.set_cons_zero, List.set_cons_succ, frOf_f, frOf_t, List.cons_append, List.nil_append]))
  | ((with_reducible apply exg_subQ); exact rfl; decide)
  | ((with_reducible apply subQ_N); exact rfl; exact rfl; decide; (first | omega | (simp only [List.length_set, List.length_append, List.length_map, List.length_range, List.length_replicate]; omega) | (simp; omega)); (try dsimp only [List.set_cons_zero, List.set_cons_succ, frOf_f, frOf_t, List.cons_append, List.nil_append]))
  | with_reducible apply ex_slice
  | with_reducible apply ex_chain
  | with_reducible apply ex_lrg1
  | with_reducible apply ex_lrg2
  | with_reducible apply ex_and
  | with_reducible apply ex_or
  | with_reducible apply ex_not
  | with_reducible apply ex_if
  | with_reducible apply ext_bool
  | with_reducible apply ext_not
  | with_reducible apply ext_and
  | with_reducible apply ext_andI
  | with_reducible apply ext_orI
  | with_reducible apply ex_andJ
  | with_reducible apply ex_repA
  | with_reducible apply ext_or
  | with_reducible apply ext_true
  | ((with_reducible apply setQ); exact rfl; exact rfl; exact rfl; (try dsimp only [List.set_cons_zero, List.set_cons_succ, frOf_f, frOf_t, List.cons_append, List.nil_append]))
  | ((with_reducible apply seqQ); exact rfl; exact rfl; (try dsimp only [List.set_cons_zero, List.set_cons_succ, frOf_f, frOf_t, List.cons_append, List.nil_append]))
  | ((with_reducible apply asgQ); exact rfl; exact rfl)
  | with_reducible apply boolQ
  | ((with_reducible apply op2_it); exact rfl; exact rfl; first | with_reducible exact gAdd_N | ((with_reducible apply gSub_N) <;> omega) | ((with_reducible apply gSub_N); (apply_assumption -symm -exfalso (transparency := .reducible) only [*] <;> first | with_reducible assumption | omega)) | ((with_reducible apply gMul_N) <;> omega) | ((with_reducible apply gFdiv_N) <;> omega) | ((with_reducible apply gMod_N) <;> omega) | with_reducible exact gLt_N | with_reducible exact gLe_N | with_reducible exact gGt_N | with_reducible exact gGe_N | with_reducible exact gEq_N | with_reducible exact gNe_N | ((with_reducible apply gIx_T) <;> omega) | ((with_reducible apply gIx_L) <;> omega) | ((with_reducible apply gIx_T); (apply_assumption -symm -exfalso (transparency := .reducible) only [*] <;> first | with_reducible assumption | omega)) | ((with_reducible apply gIx_L); (apply_assumption -symm -exfalso (transparency := .reducible) only [*] <;> first | with_reducible assumption | omega)) | with_reducible exact gIx_pr0 | with_reducible exact gIx_p0 | with_reducible exact gIx_p1 | with_reducible exact gIx_pr1 | with_reducible exact gIx_l0 | with_reducible exact gIx_l1 | with_reducible exact gEq_T | with_reducible exact gNe_T | with_reducible exact gEq_L | with_reducible exact gNe_L | with_reducible exact gNe_Lnil | with_reducible exact gIs_non | with_reducible exact gNis_non | with_reducible exact gNis_B | with_reducible exact gIs_B | with_reducible exact gEq_str | with_reducible exact gEq_non | with_reducible exact gNe_str | with_reducible exact gAdd_I | with_reducible exact gSub_I | with_reducible exact gEq_I | with_reducible exact gNe_I | with_reducible exact gLt_I | with_reducible exact gLe_I | with_reducible exact gGt_I | with_reducible exact gGe_I | with_reducible exact gEq_B | with_reducible exact gNe_B | with_reducible assumption)
  | ((with_reducible apply op2_it); exact rfl; exact rfl; (refine Sq.ix (by with_reducible assumption) ?_); first | omega | with_reducible assumption)
  | ((with_reducible apply op2_it); exact rfl; exact rfl; with_reducible exact gIx_last)
  | ((with_reducible apply op2_it); exact rfl; exact rfl; with_reducible exact gIx_lastd)
  | ((with_reducible apply op2_it); exact rfl; exact rfl; with_reducible exact gIx_last2)
  | ((with_reducible apply op2_it); exact rfl; exact rfl; (with_reducible apply gIx_Lz); first | with_reducible assumption | (simp; done) | (apply_assumption -symm -exfalso (transparency := .reducible) only [*] <;> first | with_reducible assumption | omega))
  | ((with_reducible apply op2_catTN); exact rfl; exact rfl; (simp; omega))
  | ((with_reducible apply op2_catLN); exact rfl; exact rfl; (simp; omega))
  | ((with_reducible apply op2_nl); exact rfl; exact rfl; (first | ((with_reducible apply gAdd_L) <;> (first | omega | (simp; done) | (simp; omega))) | with_reducible assumption); (try dsimp only [List.cons_append, List.nil_append]))
  | ((with_reducible apply op1_it); exact rfl; first | with_reducible exact gNeg_N | ((with_reducible apply gIsi_x); first | exact rfl | with_reducible assumption) | ((with_reducible apply gIsi2_x); first | exact rfl | with_reducible assumption))
  | ((with_reducible apply opA_it); exact rfl; first | with_reducible exact gLen_T | with_reducible exact gLen_L | with_reducible exact gLen_l | with_reducible exact gLen_t | with_reducible exact gTuple_T | with_reducible exact gMax_N | with_reducible exact gMin_N | with_reducible exact gInt_B | with_reducible exact gAll_c | with_reducible exact gAll_m | with_reducible exact gAny_m | with_reducible assumption)
  | ((with_reducible apply opA_it); exact rfl; exact Sq.len (by with_reducible assumption))
  | ((with_reducible apply opA_nl); exact rfl; exact Sq.lst (by with_reducible assumption))
  | ((with_reducible apply opA_tupSq); exact rfl; with_reducible assumption)
  | ((with_reducible apply opA_nl); exact rfl; first | with_reducible exact gList_L | with_reducible exact gList_T | with_reducible exact gList_pr)
  | ((with_reducible apply opA_nt); exact rfl; first | with_reducible exact gTuple_L)
  | ((with_reducible apply callQ_sh); exact rfl; with_reducible assumption; exact rfl; (try dsimp only [List.set_cons_zero, List.set_cons_succ, frOf_f, frOf_t, List.cons_append, List.nil_append]))
  | ((with_reducible apply callQ_fr); exact rfl; with_reducible assumption; exact rfl; (try dsimp only [List.set_cons_zero, List.set_cons_succ, frOf_f, frOf_t, List.cons_append, List.nil_append]))
  | ((with_reducible apply callQ_sh); exact rfl; (apply_assumption -symm -exfalso (transparency := .reducible) only [*] <;> first | with_reducible assumption | omega); exact rfl; (try dsimp only [List.set_cons_zero, List.set_cons_succ, frOf_f, frOf_t, List.cons_append, List.nil_append]))
  | ((with_reducible apply callQ_fr); exact rfl; (apply_assumption -symm -exfalso (transparency := .reducible) only [*] <;> first | with_reducible assumption | omega); exact rfl; (try dsimp only [List.set_cons_zero, List.set_cons_succ, frOf_f, frOf_t, List.cons_append, List.nil_append]))
  | ((with_reducible apply chQ); exact rfl; exact rfl; first | with_reducible exact gLt_N | with_reducible exact gLe_N | with_reducible exact gGt_N | with_reducible exact gGe_N | with_reducible exact gEq_N | with_reducible exact gNe_N)
  | ((with_reducible apply retQ); exact rfl; exact rfl)
  | ((with_reducible apply sqQ_Sq); exact rfl; with_reducible assumption; exact rfl; (try dsimp only [List.set_cons_zero, List.set_cons_succ, frOf_f, frOf_t, List.cons_append, List.nil_append]))
  | ((with_reducible apply sqQ_t); exact rfl; exact rfl; (try dsimp only [List.set_cons_zero, List.set_cons_succ, frOf_f, frOf_t, List.cons_append, List.nil_append]))
  | ((with_reducible apply sqQ_l); exact rfl; exact rfl; (try dsimp only [List.set_cons_zero, List.set_cons_succ, frOf_f, frOf_t, List.cons_append, List.nil_append]))
  | ((with_reducible apply datQ); exact rfl)
  | with_reducible apply st_for
  | with_reducible apply ex_callB'
  | ((with_reducible apply callB); exact rfl; exact rfl; decide; exact rfl; exact rfl)
  | ((with_reducible apply callB_strewn); exact rfl; exact rfl; exact rfl; decide; exact rfl)
  | ((with_reducible apply callB_atom); exact rfl; exact rfl; decide; exact rfl)
  | ((with_reducible apply sl_Tlo); exact rfl)
  | ((with_reducible apply sl_Thi); exact rfl)
  | ((with_reducible apply sl_Llo); exact rfl)
  | ((with_reducible apply sl_Lhi); exact rfl)
  | ((with_reducible apply sl_Plo); exact rfl)
  | ((with_reducible apply sl_llo); exact rfl)
  | ((with_reducible apply sl_lhi); exact rfl)
  | ((with_reducible apply lcQ); exact rfl; (first | exact enN _ | exact rfl); (first | omega | (simp; omega) | (simp; done)); (intro x hx; (try simp only [List.mem_range] at hx)))
  | ((with_reducible apply tstQ); exact rfl)
  | exact eltQ rfl rfl rfl
  | ((with_reducible apply backQ); exact rfl)
  | with_reducible apply exi_seq
  | with_reducible apply exi_enum
  | with_reducible apply exi_rng1
  | with_reducible apply exi_rng2
  | ((with_reducible apply rg1); omega)
  | ((with_reducible apply rg2); omega; omega)
  | with_reducible apply exo_none
  | with_reducible apply exo_some
  | ((with_reducible apply intQ); exact rfl)
  | ((with_reducible apply lr1N); exact rfl; omega)
  | ((with_reducible apply lr2N); exact rfl; exact rfl; omega; omega)
  | ((with_reducible apply exg_name); (try dsimp only [wipeE, List.set_cons_zero, List.set_cons_succ, frOf_f, frOf_t, List.cons_append, List.nil_append]))
  | with_reducible apply exg_pr
  | ((with_reducible apply exg_tupT); exact rfl)
  | ((with_reducible apply exg_tupL); exact rfl)
  | ((with_reducible apply exgs_nil); try dsimp only [List.set_cons_zero, List.set_cons_succ, frOf_f, frOf_t, List.cons_append, List.nil_append])
  | with_reducible apply exgs_cons
  | ((with_reducible apply two_t); exact rfl)
  | ((with_reducible apply two_f); exact rfl)
  | ((with_reducible apply two_t); (simp only [decide_eq_true_eq, decide_eq_false_iff_not, Bool.not_eq_true', Bool.not_eq_false', Bool.and_eq_true, Bool.or_eq_true, Bool.and_eq_false_iff, Bool.or_eq_false_iff, eq_self, and_self, not_true_eq_false, not_false_eq_true] <;> omega))
  | ((with_reducible apply two_f); (simp only [decide_eq_true_eq, decide_eq_false_iff_not, Bool.not_eq_true', Bool.not_eq_false', Bool.and_eq_true, Bool.or_eq_true, Bool.and_eq_false_iff, Bool.or_eq_false_iff, eq_self, and_self, not_true_eq_false, not_false_eq_true] <;> omega))
  | ((with_reducible apply two_d) <;> intro _)
  | ((with_reducible apply two_n) <;> intro _)
  | ((with_reducible apply two_g) <;> (intro h; (try simp only [Bool.and_eq_true, Bool.or_eq_true, Bool.and_eq_false_iff, Bool.or_eq_false_iff, decide_eq_true_eq, decide_eq_false_iff_not, Bool.not_eq_true', Bool.not_eq_false'] at h)))
  | ((with_reducible apply imp); (intro h; (try simp only [decide_eq_true_eq, decide_eq_false_iff_not, Bool.not_eq_true', Bool.not_eq_false'] at h)))
  | ((with_reducible apply impF); (intro h; (try simp only [decide_eq_true_eq, decide_eq_false_iff_not, Bool.not_eq_true', Bool.not_eq_false'] at h)))
  | with_reducible apply samQ
  | with_reducible apply eqQ
  | with_reducible exact ⟨rfl, rfl⟩
  | with_reducible exact rfl)
/-- the ends on the way from a lower end -/
def pth (n : Nat) (s p : List Nat) : Nat → Nat → List Nat
  | 0, e => [e, gt s e]
  | f + 1, e => e :: gt s e :: if gt s e < n then pth n s p f (gt p (gt s e)) else []
theorem pth_ne (n : Nat) (s p : List Nat) (f e : Nat) : pth n s p f e ≠ [] := by cases f <;> simp [pth]
def lst (l : List Nat) : Nat := gt l (l.length - 1)
theorem lst_cons (x y : Nat) (l : List Nat) : lst (x :: y :: l) = lst (y :: l) := by
  unfold lst gt
  simp
section
variable {n : Nat} {s p : List Nat} (J : Joined (2 * n) s) (Jp : Joined n p)
include J Jp
/-- two steps of the walk beside a pairing -/
theorem W_pair {st : Pt} {t e : Nat} (h : W n [hat n p, s] st t = some (1, e)) (he : gt s e < n) : W n [hat n p, s] st (t + 2) = some (1, gt p (gt s e)) := by
  have h1 : W n [hat n p, s] st (t + 1) = some (0, n + gt s e) := by
    unfold W
    rw [h, Option.bind_some]
    show tie n 2 (1, gt s e) = _
    unfold tie
    simp only
    rw [if_pos he, if_neg (by omega)]
  show W n [hat n p, s] st ((t + 1) + 1) = _
  unfold W
  rw [h1, Option.bind_some]
  show tie n 2 (0, gt (hat n p) (n + gt s e)) = _
  rw [hat_hi he]
  unfold tie
  simp only
  rw [if_neg (by omega), if_pos (by omega), show n + gt p (gt s e) - n = gt p (gt s e) by omega]
theorem path_end {x : Nat} (hx : x < n) : ∃ k e, W n [hat n p, s] (1, n + x) (2 * k) = some (1, e) ∧ n ≤ gt s e ∧ gt s e < 2 * n ∧ lst (pth n s p (2 * n) (n + x)) = gt s e := by
  have A := allJ2 (hat_joined Jp) J
  have v : Vd n [hat n p, s].length (1, n + x) := ⟨by simp, by simp only; omega⟩
  have ho : tie n [hat n p, s].length (1, n + x) = none := by
    have := out_tie (n := n) (k := 2) (e := n + x) (by omega)
    unfold out at this
    rwa [if_neg (by omega)] at this
  suffices H : ∀ f k e, f + k = 2 * n → W n [hat n p, s] (1, n + x) (2 * k) = some (1, e) → ∃ k' e', W n [hat n p, s] (1, n + x) (2 * k') = some (1, e') ∧ n ≤ gt s e' ∧ gt s e' < 2 * n ∧ lst (pth n s p f e) = gt s e' from H (2 * n) 0 (n + x) rfl rfl
  intro f
  induction f with
  | zero =>
    intro k e hk hW
    have := W_few A v ho hW
    simp at this; omega
  | succ f ih =>
    intro k e hk hW
    have hv := (W_vd A v _ _ hW).2
    have h1 := J.lt hv
    by_cases q : gt s e < n
    · obtain ⟨k', e', h2, h3, h4, h5⟩ := ih (k + 1) _ (by omega) (W_pair J Jp hW q)
      refine ⟨k', e', h2, h3, h4, ?_⟩
      rw [← h5]
      unfold pth
      rw [if_pos q, lst_cons]
      cases f with
      | zero => simp only [pth, lst_cons]
      | succ f => simp only [pth, lst_cons]
    · exact ⟨k, e, hW, by omega, h1, by unfold pth; rw [if_neg q]; rfl⟩
/-- who is at the end -/
def resL (n : Nat) (s p : List Nat) : List Nat := (List.range n).map fun x => lst (pth n s p (2 * n) (n + x)) - n
theorem res_ok : Res n s p (resL n s p) := by
  refine ⟨by simp [resL], fun x hx => ?_⟩
  have A := allJ2 (hat_joined Jp) J
  have v : Vd n [hat n p, s].length (1, n + x) := ⟨by simp, by simp only; omega⟩
  have ho : tie n [hat n p, s].length (1, n + x) = none := by
    have := out_tie (n := n) (k := 2) (e := n + x) (by omega)
    unfold out at this
    rwa [if_neg (by omega)] at this
  obtain ⟨k, e, h1, h2, h3, h4⟩ := path_end J Jp hx
  have g : gt (resL n s p) x = gt s e - n := by
    unfold resL; rw [gt_mk hx, h4]
  have hc := (W_conn A v _ _ h1).join
  have hn := W_ne A v ho h1
  have e1 : al [hat n p, s] (1, e) = (1, gt s e) := rfl
  rw [e1] at hc hn
  rw [g]
  refine ⟨by omega, fun q => hn (by congr 1; omega), ?_⟩
  rw [show n + (gt s e - n) = gt s e by omega]
  exact hc
end
theorem ends_w {n x : Nat} {A B : D} {s p : List Nat} (hA : Sq A s) (hB : Sq B p) (J : Joined (2 * n) s) (Jp : Joined n p) (hn : n ≤ 1000) (hx : x < n) :
    F_ends_from [A, B, N x] = some ⟨true, .list (Ns (pth n s p (2 * n) (n + x))), []⟩ := by
  have hl := J.len
  have hlp := Jp.len
  have A2 := allJ2 (hat_joined Jp) J
  have v : Vd n [hat n p, s].length (1, n + x) := ⟨by simp, by simp only; omega⟩
  have ho : tie n [hat n p, s].length (1, n + x) = none := by
    have := out_tie (n := n) (k := 2) (e := n + x) (by omega)
    unfold out at this
    rwa [if_neg (by omega)] at this
  refine Cl.eq ?_
  unfold F_ends_from
  repeat' (first | infer_instance | fail)
  rw [hlp]
  refine st_while (4 * n) (fun m ρ => ∃ k e pre, W n [hat n p, s] (1, n + x) (2 * k) = some (1, e) ∧ m + 2 * k = 4 * n ∧ pre.length = 2 * k ∧ pth n s p (2 * n) (n + x) = pre ++ pth n s p (2 * n - k) e ∧ ρ = [sh A, sh B, sh (N x), sh (N n), ow (.list (Ns (pre ++ [e] ++ [gt s e])))]) ⟨0, n + x, [], rfl, by omega, rfl, rfl, rfl⟩ (by omega) ?_
  rintro m ρ ⟨k, e, pre, hW, hm, hpre, hpth, rfl⟩
  have he := (W_vd A2 v _ _ hW).2
  have hk := W_few A2 v ho hW
  have hg := J.lt he
  simp at hk
  by_cases q : gt s e < n
  · have hp2 := Jp.lt q
    obtain ⟨f, hf⟩ : ∃ f, 2 * n - k = f + 1 := ⟨2 * n - k - 1, by omega⟩
    have hk2 := W_few A2 v ho (W_pair J Jp hW q)
    simp at hk2
    repeat' (first | infer_instance | fail)
    refine ⟨m - 2, by omega, k + 1, gt p (gt s e), pre ++ [e] ++ [gt s e], W_pair J Jp hW q, by omega, by simp; omega, ?_, rfl⟩
    rw [hpth, hf, show 2 * n - (k + 1) = f by omega]
    conv => lhs; unfold pth
    rw [if_pos q]
    simp
  · repeat' (first | infer_instance | fail)
    rw [hpth]
    cases hf : 2 * n - k with
    | zero => simp [pth]
    | succ f => unfold pth; rw [if_neg q]; simp
theorem result_of_w {n : Nat} {A B : D} {s p : List Nat} (hA : Sq A s) (hB : Sq B p) (J : Joined (2 * n) s) (Jp : Joined n p) (hn : n ≤ 1000) :
    F_result_of [A, B] = some ⟨false, .tuple (Ns (resL n s p)), []⟩ := by
  have hlp := Jp.len
  have hU := fun x (hx : x < n) => ends_w hA hB J Jp hn hx
  have hb : ∀ x, x < n → n ≤ gt (pth n s p (2 * n) (n + x)) ((pth n s p (2 * n) (n + x)).length - 1) := fun x hx => by
    obtain ⟨k, e, h1, h2, h3, h4⟩ := path_end J Jp hx
    unfold lst at h4; omega
  have hne : ∀ x, pth n s p (2 * n) (n + x) ≠ [] := fun x => pth_ne n s p (2 * n) (n + x)
  subst hlp
  refine Cl.eq ?_
  unfold F_result_of
  repeat' (first | infer_instance | fail)
  rfl
theorem resL_joined {n : Nat} {s p : List Nat} (J : Joined (2 * n) s) (Jp : Joined n p) : Joined n (resL n s p) := (res_ok J Jp).joined J Jp
theorem res_comp' {n : Nat} {a b ab p : List Nat} (Ja : Joined (2 * n) a) (Jb : Joined (2 * n) b) (Jp : Joined n p) (h0 : 0 < n) (hn : n ≤ 1000) (C : Comp n [a, b] ab) : resL n ab p = resL n b (resL n a p) := by
  have Jab := C.joined (allJ2 Ja Jb) (by simp)
  obtain ⟨w, hw⟩ := comp_ex (hat_joined Jp) Jab h0 hn
  exact res_comp Ja Jb Jp C (res_ok Ja Jp) (res_ok Jb (resL_joined Ja Jp)) hw (res_ok Jab Jp)
end Sh
set_option Elab.async false
set_option linter.all false
set_option maxRecDepth 100000
set_option maxHeartbeats 4000000
namespace Sh
open PySem PySem.Spec PyProof.Rows L2 DL
/-- the sheet of a word -/
def shW (n : Nat) (ps : List (Nat × Nat)) : List Nat := ps.foldl (fun s p => addS n s p.1 p.2) (idS n)
def CallsOk (n : Nat) (ps : List (Nat × Nat)) : Prop := ∀ p ∈ ps, p.1 < p.2 ∧ p.2 < n
theorem CallsOk.app {n : Nat} {a b : List (Nat × Nat)} (h : CallsOk n (a ++ b)) : CallsOk n a ∧ CallsOk n b := ⟨fun p hp => h p (List.mem_append_left _ hp), fun p hp => h p (List.mem_append_right _ hp)⟩
theorem shF_joined {n : Nat} : ∀ {ps : List (Nat × Nat)} {s : List Nat}, Joined (2 * n) s → CallsOk n ps → Joined (2 * n) (ps.foldl (fun s p => addS n s p.1 p.2) s)
  | [], s, J, _ => J
  | p :: ps, s, J, h => shF_joined (s := addS n s p.1 p.2) (addS_joined J (h p (by simp)).1 (h p (by simp)).2) fun q hq => h q (by simp [hq])
theorem shW_joined {n : Nat} {ps : List (Nat × Nat)} (h : CallsOk n ps) : Joined (2 * n) (shW n ps) := shF_joined (idS_joined n) h
theorem shW_snoc {n : Nat} (ps : List (Nat × Nat)) (p : Nat × Nat) : shW n (ps ++ [p]) = addS n (shW n ps) p.1 p.2 := by simp [shW]
end Sh
set_option Elab.async false
set_option linter.all false
set_option maxRecDepth 100000
set_option maxHeartbeats 4000000
namespace Sh
open PySem PySem.Spec PyProof.Rows L2 DL
def F_look_word : FS := toF 2 3 none (ffor (fiseq (fvar 1)) (bname 2) (fdrop (fcall none F_look_call (fcons (fvar 0) (fcons (fvar 2) fnil)))))
def F_sheet_of : FS := toF 2 4 none (fseq (fdrop (fcall none F_look_word (fcons (fvar 0) (fcons (fvar 1) fnil))))
    (fseq (fset [2] (f1 (fcall none F_empty_sheet (fcons (fvar 0) fnil))))
    (fseq (ffor (fiseq (fvar 1)) (bname 3) (fset [2] (f1 (fcall none F_added (fcons (fvar 2) (fcons (fvar 3) fnil))))))
    (fret (fvar 2)))))
def callS (n a b : Nat) : List Nat := addS n (idS n) a b
section
variable {n a b : Nat} (hab : a < b) (hb : b < n)
include hab hb
theorem callS_get {e : Nat} (he : e < 2 * n) : gt (callS n a b) e = if e = n + b then n + a else if e = n + a then n + b else if e = b then a else if e = a then b else fl n e := by
  unfold callS
  rw [addS_get (idS_joined n) hab hb]
  have h1 : gt (idS n) (n + a) = a := by rw [idS_get (by omega)]; unfold fl; rw [if_neg (by omega)]; omega
  have h2 : gt (idS n) (n + b) = b := by rw [idS_get (by omega)]; unfold fl; rw [if_neg (by omega)]; omega
  rw [h1, h2, if_neg (by omega : ¬ a = n + b), idS_get he]
theorem callS_joined : Joined (2 * n) (callS n a b) := addS_joined (idS_joined n) hab hb
theorem comp_call {s : List Nat} (J : Joined (2 * n) s) : Comp n [s, callS n a b] (addS n s a b) := by
  have K := callS_joined hab hb
  have A := allJ2 J K
  have J' := addS_joined J hab hb
  have tieD : ∀ y, y < n → Conn n [s, callS n a b] (0, n + y) (1, y) := fun y hy => .tie .refl (by
    unfold tie; simp only [List.length_cons, List.length_nil]
    rw [if_neg (by omega), if_pos (by omega)]; simp)
  have c0 : ∀ e, Conn n [s, callS n a b] (0, e) (0, gt s e) := fun e => conn2_join (b := s) J rfl
  have c1 : ∀ e, Conn n [s, callS n a b] (1, e) (1, gt (callS n a b) e) := fun e => conn2_join (b := callS n a b) K rfl
  have v0 : ∀ e, e < 2 * n → Vd n [s, callS n a b].length (0, e) := fun e he => ⟨by simp, he⟩
  have v1 : ∀ e, e < 2 * n → Vd n [s, callS n a b].length (1, e) := fun e he => ⟨by simp, he⟩
  -- ends that are not called lead straight out
  have str : ∀ z, z < 2 * n → z ≠ n + a → z ≠ n + b → Conn n [s, callS n a b] (0, z) (out n 2 z) := fun z hz h1 h2 => by
    unfold out
    by_cases q : z < n
    · rw [if_pos q]; exact .refl
    · rw [if_neg q]
      have h3 := tieD (z - n) (by omega)
      rw [show n + (z - n) = z by omega] at h3
      have h4 := c1 (z - n)
      rw [callS_get hab hb (by omega), if_neg (by omega), if_neg (by omega), if_neg (by omega), if_neg (by omega)] at h4
      unfold fl at h4
      rw [if_pos (by omega), show z - n + n = z by omega] at h4
      exact h3.trans h4
  have low : Conn n [s, callS n a b] (1, n + a) (1, n + b) := by
    have := c1 (n + a)
    rwa [callS_get hab hb (by omega), if_neg (by omega), if_pos rfl] at this
  have mid : Conn n [s, callS n a b] (0, n + a) (0, n + b) := by
    have h3 := tieD a (by omega)
    have h4 := c1 a
    rw [callS_get hab hb (by omega), if_neg (by omega), if_neg (by omega), if_neg (by omega), if_pos rfl] at h4
    exact (h3.trans h4).trans ((tieD b hb).symm A (v0 _ (by omega)))
  refine ⟨J'.len, fun e he => ⟨J'.lt he, J'.ne he, ?_⟩⟩
  show Conn n [s, callS n a b] (out n 2 e) (out n 2 (gt (addS n s a b) e))
  have hx := J.lt (x := n + a) (by omega)
  have hy := J.lt (x := n + b) (by omega)
  have gx := J.gg (x := n + a) (by omega)
  have gy := J.gg (x := n + b) (by omega)
  have nx := J.ne (x := n + a) (by omega)
  have ny := J.ne (x := n + b) (by omega)
  have ge := J.gg he
  have hge := J.lt he
  rw [addS_get J hab hb]
  by_cases q1 : e = n + b
  · rw [if_pos q1, q1]
    unfold out
    rw [if_neg (by omega), if_neg (by omega)]
    exact low.symm A (v1 _ (by omega))
  rw [if_neg q1]
  by_cases q2 : e = n + a
  · rw [if_pos q2, q2]
    unfold out
    rw [if_neg (by omega), if_neg (by omega)]
    exact low
  rw [if_neg q2]
  have oe := (str e he q2 q1).symm A (v0 _ he)
  by_cases q3 : gt s (n + a) = n + b
  · rw [if_pos q3]
    refine oe.trans ((c0 e).trans (str _ hge (fun z => ?_) fun z => ?_))
    · rw [z, q3] at ge; omega
    · rw [z, ← q3, gx] at ge; omega
  rw [if_neg q3]
  have q3' : gt s (n + b) ≠ n + a := fun z => q3 (by rw [← z, gy])
  by_cases q4 : e = gt s (n + b)
  · rw [if_pos q4]
    have h1 := c0 e
    rw [q4, gy] at h1
    rw [q4] at oe ⊢
    exact oe.trans (h1.trans ((mid.symm A (v0 _ (by omega))).trans ((c0 (n + a)).trans (str _ hx nx q3))))
  rw [if_neg q4]
  by_cases q5 : e = gt s (n + a)
  · rw [if_pos q5]
    have h1 := c0 e
    rw [q5, gx] at h1
    rw [q5] at oe ⊢
    exact oe.trans (h1.trans (mid.trans ((c0 (n + b)).trans (str _ hy q3' ny))))
  rw [if_neg q5]
  exact oe.trans ((c0 e).trans (str _ hge (fun z => q5 (by rw [← z, ge])) fun z => q4 (by rw [← z, ge])))
end
def stepP (p : List Nat) (a b : Nat) : List Nat := if gt p a = b then p else (((p.set a b).set b a).set (gt p a) (gt p b)).set (gt p b) (gt p a)
theorem stepP_get {n a b : Nat} {p : List Nat} (J : Joined n p) (hab : a < b) (hb : b < n) (x : Nat) : gt (stepP p a b) x = if gt p a = b then gt p x else if x = gt p b then gt p a else if x = gt p a then gt p b else if x = b then a else if x = a then b else gt p x := by
  have hl := J.len
  have h1 := J.lt (x := a) (by omega)
  have h2 := J.lt hb
  unfold stepP
  split
  · rfl
  · rw [gt_set _ (by simp; omega), gt_set _ (by simp; omega), gt_set _ (by simp; omega), gt_set _ (by omega)]
theorem stepP_len (p : List Nat) (a b : Nat) : (stepP p a b).length = p.length := by unfold stepP; split <;> simp
theorem res_callS {n a b : Nat} {p : List Nat} (J : Joined n p) (hab : a < b) (hb : b < n) : Res n (callS n a b) p (stepP p a b) := by
  have K := callS_joined hab hb
  have H := hat_joined J
  have A := allJ2 H K
  refine ⟨by rw [stepP_len, J.len], fun x hx => ?_⟩
  have c0 : ∀ y, y < n → Conn n [hat n p, callS n a b] (0, n + y) (0, n + gt p y) := fun y hy => by
    have := conn2_join (n := n) (L := [hat n p, callS n a b]) (b := hat n p) (i := 0) (y := n + y) H rfl
    rwa [hat_hi hy] at this
  have c1 : ∀ e, Conn n [hat n p, callS n a b] (1, e) (1, gt (callS n a b) e) := fun e => conn2_join (b := callS n a b) K rfl
  have tieD : ∀ y, y < n → Conn n [hat n p, callS n a b] (0, n + y) (1, y) := fun y hy => .tie .refl (by
    unfold tie; simp only [List.length_cons, List.length_nil]
    rw [if_neg (by omega), if_pos (by omega)]; simp)
  have v0 : ∀ e, e < 2 * n → Vd n [hat n p, callS n a b].length (0, e) := fun e he => ⟨by simp, he⟩
  have v1 : ∀ e, e < 2 * n → Vd n [hat n p, callS n a b].length (1, e) := fun e he => ⟨by simp, he⟩
  have str : ∀ y, y < n → y ≠ a → y ≠ b → Conn n [hat n p, callS n a b] (0, n + y) (1, n + y) := fun y hy h1 h2 => by
    have h4 := c1 y
    rw [callS_get hab hb (by omega), if_neg (by omega), if_neg (by omega), if_neg h2, if_neg h1] at h4
    unfold fl at h4
    rw [if_pos hy, Nat.add_comm y n] at h4
    exact (tieD y hy).trans h4
  have low : Conn n [hat n p, callS n a b] (1, n + a) (1, n + b) := by
    have := c1 (n + a)
    rwa [callS_get hab hb (by omega), if_neg (by omega), if_pos rfl] at this
  have mid : Conn n [hat n p, callS n a b] (0, n + a) (0, n + b) := by
    have h4 := c1 a
    rw [callS_get hab hb (by omega), if_neg (by omega), if_neg (by omega), if_neg (by omega), if_pos rfl] at h4
    exact ((tieD a (by omega)).trans h4).trans ((tieD b hb).symm A (v0 _ (by omega)))
  have h1 := J.lt (x := a) (by omega)
  have h2 := J.lt hb
  have g1 := J.gg (x := a) (by omega)
  have g2 := J.gg hb
  have n1 := J.ne (x := a) (by omega)
  have n2 := J.ne hb
  have gx := J.gg hx
  have hgx := J.lt hx
  have nx := J.ne hx
  rw [stepP_get J hab hb]
  by_cases q3 : gt p a = b
  · rw [if_pos q3]
    refine ⟨hgx, nx, ?_⟩
    by_cases e1 : x = a
    · subst e1; rw [q3]; exact low
    by_cases e2 : x = b
    · subst e2; rw [show gt p x = a by rw [← q3, g1]]; exact low.symm A (v1 _ (by omega))
    exact ((str x hx e1 e2).symm A (v0 _ (by omega))).trans ((c0 x hx).trans (str _ hgx (fun z => e2 (by rw [← gx, z, q3])) fun z => e1 (by rw [← gx, z, ← q3, g1])))
  rw [if_neg q3]
  have q3' : gt p b ≠ a := fun z => q3 (by rw [← z, g2])
  by_cases e1 : x = gt p b
  · rw [if_pos e1]
    subst e1
    refine ⟨h1, fun z => by have := J.inj (x := a) (y := b) (by omega) hb z; omega, ?_⟩
    have e := c0 _ h2
    rw [g2] at e
    exact ((str _ h2 q3' n2).symm A (v0 _ (by omega))).trans (e.trans ((mid.symm A (v0 _ (by omega))).trans ((c0 a (by omega)).trans (str _ h1 n1 q3))))
  rw [if_neg e1]
  by_cases e2 : x = gt p a
  · rw [if_pos e2]
    subst e2
    refine ⟨h2, fun z => by have := J.inj (x := a) (y := b) (by omega) hb z.symm; omega, ?_⟩
    have e := c0 _ h1
    rw [g1] at e
    exact ((str _ h1 n1 q3).symm A (v0 _ (by omega))).trans (e.trans (mid.trans ((c0 b hb).trans (str _ h2 q3' n2))))
  rw [if_neg e2]
  by_cases e3 : x = b
  · rw [if_pos e3]
    subst e3
    exact ⟨by omega, by omega, low.symm A (v1 _ (by omega))⟩
  rw [if_neg e3]
  by_cases e4 : x = a
  · rw [if_pos e4]
    subst e4
    exact ⟨hb, by omega, low⟩
  rw [if_neg e4]
  refine ⟨hgx, nx, ?_⟩
  exact ((str x hx e4 e3).symm A (v0 _ (by omega))).trans ((c0 x hx).trans (str _ hgx (fun z => e2 (by rw [← gx, z])) fun z => e1 (by rw [← gx, z])))
theorem stepP_joined {n a b : Nat} {p : List Nat} (J : Joined n p) (hab : a < b) (hb : b < n) : Joined n (stepP p a b) := (res_callS J hab hb).joined (callS_joined hab hb) J
theorem res_add {n a b : Nat} {s p : List Nat} (Js : Joined (2 * n) s) (J : Joined n p) (hab : a < b) (hb : b < n) (hn : n ≤ 1000) : resL n (addS n s a b) p = stepP (resL n s p) a b := by
  rw [res_comp' Js (callS_joined hab hb) J (by omega) hn (comp_call hab hb Js)]
  have Jr := resL_joined Js J
  exact (res_ok (callS_joined hab hb) Jr).uniq (callS_joined hab hb) Jr (res_callS Jr hab hb)
theorem res_idS {n : Nat} {p : List Nat} (J : Joined n p) : resL n (idS n) p = p := by
  refine (res_ok (idS_joined n) J).uniq (idS_joined n) J ⟨J.len, fun x hx => ⟨J.lt hx, J.ne hx, ?_⟩⟩
  have H := hat_joined J
  have A := allJ2 H (idS_joined n)
  have c0 := conn2_join (n := n) (L := [hat n p, idS n]) (b := hat n p) (i := 0) (y := n + x) H rfl
  rw [hat_hi hx] at c0
  have str : ∀ y, y < n → Conn n [hat n p, idS n] (0, n + y) (1, n + y) := fun y hy => by
    have h4 := conn2_join (n := n) (L := [hat n p, idS n]) (b := idS n) (i := 1) (y := y) (idS_joined n) rfl
    rw [idS_get (by omega)] at h4
    unfold fl at h4
    rw [if_pos hy, Nat.add_comm y n] at h4
    exact (Conn.tie .refl (by
      unfold tie; simp only [List.length_cons, List.length_nil]
      rw [if_neg (by omega), if_pos (by omega)]; simp)).trans h4
  exact ((str x hx).symm A ⟨by simp, by simp only; omega⟩).trans (c0.trans (str _ (J.lt hx)))
def ledP (p : List Nat) (ps : List (Nat × Nat)) : List Nat := ps.foldl (fun p c => stepP p c.1 c.2) p
theorem ledP_joined {n : Nat} : ∀ {ps : List (Nat × Nat)} {p : List Nat}, Joined n p → CallsOk n ps → Joined n (ledP p ps)
  | [], p, J, _ => J
  | c :: ps, p, J, h => ledP_joined (p := stepP p c.1 c.2) (stepP_joined J (h c (by simp)).1 (h c (by simp)).2) fun q hq => h q (by simp [hq])
theorem res_foldl {n : Nat} (hn : n ≤ 1000) : ∀ {ps : List (Nat × Nat)} {s p : List Nat}, Joined (2 * n) s → Joined n p → CallsOk n ps → resL n (ps.foldl (fun s p => addS n s p.1 p.2) s) p = ledP (resL n s p) ps
  | [], s, p, _, _, _ => rfl
  | c :: ps, s, p, Js, J, h => by
    have hc := h c (by simp)
    show resL n (ps.foldl (fun s p => addS n s p.1 p.2) (addS n s c.1 c.2)) p = ledP (stepP (resL n s p) c.1 c.2) ps
    rw [res_foldl hn (addS_joined Js hc.1 hc.2) J fun q hq => h q (by simp [hq]), res_add Js J hc.1 hc.2 hn]
/-- the result of the sheet of a word is the pairing after its calls -/
theorem res_word {n : Nat} {ps : List (Nat × Nat)} {p : List Nat} (hn : n ≤ 1000) (J : Joined n p) (h : CallsOk n ps) : resL n (shW n ps) p = ledP p ps := by
  unfold shW
  rw [res_foldl hn (idS_joined n) J h, res_idS J]
end Sh
set_option Elab.async false
set_option linter.all false
set_option maxRecDepth 100000
set_option maxHeartbeats 4000000
namespace Sh
open PySem PySem.Spec PyProof.Rows L2 DL
local macro_rules | `(tactic| infer_instance) => `(tactic| first
  | with_reducible apply st_seq
  | ((with_reducible apply cl_toF); (simp +decide only [en0, enA, List.length_cons, List.length_nil, List.cons_append, List.nil_append, List.replicate, ↓reduceIte, Nat.reduceAdd, Nat.reduceSub, Nat.zero_add] <;> exact rfl); exact rfl)
  | with_reducible apply st_set
  | with_reducible apply st_ph
  | with_reducible apply pst_set
  | ((with_reducible apply psetQ); (first | (simp [allFrL]; done) | (simp [allFrL]; omega) | (simp [allFrL, Ts]; omega)); exact rfl; exact rfl; (try dsimp only [List.set_cons_zero, List.set_cons_succ, frOf_f, frOf_t, List.cons_append, List.nil_append]))
  | ((with_reducible apply pst_if); exact rfl)
  | ((with_reducible apply pst_mut); exact rfl; (simp; done); decide)
  | with_reducible apply pst_end
  | with_reducible apply st_asg
  | with_reducible apply st_if
  | with_reducible apply st_ret
  | with_reducible apply st_drop
  | with_reducible apply st_skip
  | with_reducible apply st_retN
  | with_reducible apply exa_nil
  | with_reducible apply exa_cons
  | with_reducible apply exa_f1
  | with_reducible apply exa_perm
  | with_reducible apply exa_app
  | ((with_reducible apply ex_var_sh); exact rfl)
  | ((with_reducible apply ex_var_al); exact rfl; decide)
  | with_reducible apply ex_fc0 | with_reducible apply ex_fc1 | with_reducible apply ex_fc2 | with_reducible apply ex_fc3 | with_reducible apply ex_fc4 | with_reducible apply ex_fc5 | with_reducible apply ex_fc6 | with_reducible apply ex_fc7 | with_reducible apply ex_fc8 | with_reducible apply ex_fc9 | with_reducible apply ex_fc10 | with_reducible apply ex_fc11 | with_reducible apply ex_fc12 | with_reducible apply ex_fc14 | with_reducible apply ex_fc16 | with_reducible apply ex_fc18 | with_reducible apply ex_fc20 | with_reducible apply ex_fc21 | with_reducible apply ex_fc26 | with_reducible apply ex_fc30 | with_reducible apply ex_fc40 | with_reducible apply ex_fc41 | with_reducible apply ex_fc50 | with_reducible apply ex_fc60 | with_reducible apply ex_fc61 | with_reducible apply ex_fc80 | with_reducible apply ex_fc100 | with_reducible apply ex_fc300 | with_reducible apply ex_fc400
  | with_reducible apply ex_fc
  | with_reducible apply ex_op2
  | with_reducible apply ex_opA
  | with_reducible apply ex_op1
  | with_reducible apply ex_tup
  | with_reducible apply ex_lst
  | with_reducible apply ex_fdctT
  | with_reducible apply ex_fdctK
  | ((with_reducible apply exg_putQ); exact rfl; decide)
  | ((with_reducible apply op2_it); exact rfl; exact rfl; with_reducible exact nin_Td)
  | ((with_reducible apply opA_it); exact rfl; with_reducible exact len_Td)
  | with_reducible apply ex_call
  | with_reducible apply ex_lc
  | with_reducible apply ex_rep
  | ((with_reducible apply repQ_2); exact rfl)
  | ((with_reducible apply repQ_3); exact rfl)
  | ((with_reducible apply repAQ_P); exact rfl; decide; exact rfl; omega; omega)
  | ((with_reducible apply repQ_N); exact rfl; omega)
  | ((with_reducible apply nrm); (try simp only [filt_true, map_Ns, map_Ps, map_Ps', List.map_id_fun', List.map_id']))
  | ((with_reducible apply ex_meth); exact rfl; decide)
  | ((with_reducible apply methQ); exact rfl; exact rfl; exact rfl; decide; (first | ((with_reducible apply gAppend_N); (first | omega | (simp only [List.length_set, List.length_append, List.length_map, List.length_range, List.length_replicate, List.length_cons, List.length_nil, Ns_len, Ps_len]; omega) | (simp; omega))) | ((with_reducible apply gAppend_d); (first | omega | (simp only [List.length_set, List.length_append, List.length_map, List.length_range, List.length_replicate, List.length_cons, List.length_nil, Ns_len, Ps_len]; omega) | (simp; omega))) | with_reducible assumption); (try dsimp only [List.set_cons_zero, List.set_cons_succ, frOf_f, frOf_t, List.cons_append, List.nil_append]))
  | ((with_reducible apply exg_subQ); exact rfl; decide)
  | ((with_reducible apply subQ_N); exact rfl; exact rfl; decide; (first | omega | (simp only [List.length_set, List.length_append, List.length_map, List.length_range, List.length_replicate]; omega) | (simp; omega)); (try dsimp only [List.set_cons_zero, List.set_cons_succ, frOf_f, frOf_t, List.cons_append, List.nil_append]))
  | with_reducible apply ex_slice
  | with_reducible apply ex_chain
  | with_reducible apply ex_lrg1
  | with_reducible apply ex_lrg2
  | with_reducible apply ex_and
  | with_reducible apply ex_or
  | with_reducible apply ex_not
  | with_reducible apply ex_if
  | with_reducible apply ext_bool
  | with_reducible apply ext_not
  | with_reducible apply ext_and
  | with_reducible apply ext_andI
  | with_reducible apply ext_orI
  | with_reducible apply ex_andJ
  | with_reducible apply ex_repA
  | with_reducible apply ext_or
  | with_reducible apply ext_true
  | ((with_reducible apply setQ); exact rfl; exact rfl; exact rfl; (try dsimp only [List.set_cons_zero, List.set_cons_succ, frOf_f, frOf_t, List.cons_append, List.nil_append]))
  | ((with_reducible apply seqQ); exact rfl; exact rfl; (try dsimp only [List.set_cons_zero, List.set_cons_succ, frOf_f, frOf_t, List.cons_append, List.nil_append]))
  | ((with_reducible apply asgQ); exact rfl; exact rfl)
  | with_reducible apply boolQ
  | ((with_reducible apply op2_it); exact rfl; exact rfl; first | with_reducible exact gAdd_N | ((with_reducible apply gSub_N) <;> omega) | ((with_reducible apply gSub_N); (apply_assumption -symm -exfalso (transparency := .reducible) only [*] <;> first | with_reducible assumption | omega)) | ((with_reducible apply gMul_N) <;> omega) | ((with_reducible apply gFdiv_N) <;> omega) | ((with_reducible apply gMod_N) <;> omega) | with_reducible exact gLt_N | with_reducible exact gLe_N | with_reducible exact gGt_N | with_reducible exact gGe_N | with_reducible exact gEq_N | with_reducible exact gNe_N | ((with_reducible apply gIx_T) <;> omega) | ((with_reducible apply gIx_L) <;> omega) | ((with_reducible apply gIx_T); (apply_assumption -symm -exfalso (transparency := .reducible) only [*] <;> first | with_reducible assumption | omega)) | ((with_reducible apply gIx_L); (apply_assumption -symm -exfalso (transparency := .reducible) only [*] <;> first | with_reducible assumption | omega)) | with_reducible exact gIx_pr0 | with_reducible exact gIx_p0 | with_reducible exact gIx_p1 | with_reducible exact gIx_pr1 | with_reducible exact gIx_l0 | with_reducible exact gIx_l1 | with_reducible exact gEq_T | with_reducible exact gNe_T | with_reducible exact gEq_L | with_reducible exact gNe_L | with_reducible exact gNe_Lnil | with_reducible exact gIs_non | with_reducible exact gNis_non | with_reducible exact gNis_B | with_reducible exact gIs_B | with_reducible exact gEq_str | with_reducible exact gEq_non | with_reducible exact gNe_str | with_reducible exact gAdd_I | with_reducible exact gSub_I | with_reducible exact gEq_I | with_reducible exact gNe_I | with_reducible exact gLt_I | with_reducible exact gLe_I | with_reducible exact gGt_I | with_reducible exact gGe_I | with_reducible exact gEq_B | with_reducible exact gNe_B | with_reducible assumption)
  | ((with_reducible apply op2_it); exact rfl; exact rfl; (refine Sq.ix (by with_reducible assumption) ?_); first | omega | with_reducible assumption)
  | ((with_reducible apply op2_it); exact rfl; exact rfl; with_reducible exact gIx_last)
  | ((with_reducible apply op2_it); exact rfl; exact rfl; with_reducible exact gIx_lastd)
  | ((with_reducible apply op2_it); exact rfl; exact rfl; with_reducible exact gIx_last2)
  | ((with_reducible apply op2_it); exact rfl; exact rfl; (with_reducible apply gIx_Lz); first | with_reducible assumption | (simp; done) | (apply_assumption -symm -exfalso (transparency := .reducible) only [*] <;> first | with_reducible assumption | omega))
  | ((with_reducible apply op2_catTN); exact rfl; exact rfl; (simp; omega))
  | ((with_reducible apply op2_catLN); exact rfl; exact rfl; (simp; omega))
  | ((with_reducible apply op2_nl); exact rfl; exact rfl; (first | ((with_reducible apply gAdd_L) <;> (first | omega | (simp; done) | (simp; omega))) | with_reducible assumption); (try dsimp only [List.cons_append, List.nil_append]))
  | ((with_reducible apply op1_it); exact rfl; first | with_reducible exact gNeg_N | ((with_reducible apply gIsi_x); first | exact rfl | with_reducible assumption) | ((with_reducible apply gIsi2_x); first | exact rfl | with_reducible assumption))
  | ((with_reducible apply opA_it); exact rfl; first | with_reducible exact gLen_T | with_reducible exact gLen_L | with_reducible exact gLen_l | with_reducible exact gLen_t | with_reducible exact gTuple_T | with_reducible exact gMax_N | with_reducible exact gMin_N | with_reducible exact gInt_B | with_reducible exact gAll_c | with_reducible exact gAll_m | with_reducible exact gAny_m | with_reducible assumption)
  | ((with_reducible apply opA_it); exact rfl; exact Sq.len (by with_reducible assumption))
  | ((with_reducible apply opA_nl); exact rfl; exact Sq.lst (by with_reducible assumption))
  | ((with_reducible apply opA_tupSq); exact rfl; with_reducible assumption)
  | ((with_reducible apply opA_nl); exact rfl; first | with_reducible exact gList_L | with_reducible exact gList_T | with_reducible exact gList_pr)
  | ((with_reducible apply opA_nt); exact rfl; first | with_reducible exact gTuple_L)
  | ((with_reducible apply callQ_sh); exact rfl; with_reducible assumption; exact rfl; (try dsimp only [List.set_cons_zero, List.set_cons_succ, frOf_f, frOf_t, List.cons_append, List.nil_append]))
  | ((with_reducible apply callQ_fr); exact rfl; with_reducible assumption; exact rfl; (try dsimp only [List.set_cons_zero, List.set_cons_succ, frOf_f, frOf_t, List.cons_append, List.nil_append]))
  | ((with_reducible apply callQ_sh); exact rfl; (apply_assumption -symm -exfalso (transparency := .reducible) only [*] <;> first | with_reducible assumption | omega); exact rfl; (try dsimp only [List.set_cons_zero, List.set_cons_succ, frOf_f, frOf_t, List.cons_append, List.nil_append]))
  | ((with_reducible apply callQ_fr); exact rfl; (apply_assumption -symm -exfalso (transparency := .reducible) only [*] <;> first | with_reducible assumption | omega); exact rfl; (try dsimp only [List.set_cons_zero, List.set_cons_succ, frOf_f, frOf_t, List.cons_append, List.nil_append]))
  | ((with_reducible apply chQ); exact rfl; exact rfl; first | with_reducible exact gLt_N | with_reducible exact gLe_N | with_reducible exact gGt_N | with_reducible exact gGe_N | with_reducible exact gEq_N | with_reducible exact gNe_N)
  | ((with_reducible apply retQ); exact rfl; exact rfl)
  | ((with_reducible apply sqQ_Sq); exact rfl; with_reducible assumption; exact rfl; (try dsimp only [List.set_cons_zero, List.set_cons_succ, frOf_f, frOf_t, List.cons_append, List.nil_append]))
  | ((with_reducible apply sqQ_t); exact rfl; exact rfl; (try dsimp only [List.set_cons_zero, List.set_cons_succ, frOf_f, frOf_t, List.cons_append, List.nil_append]))
  | ((with_reducible apply sqQ_l); exact rfl; exact rfl; (try dsimp only [List.set_cons_zero, List.set_cons_succ, frOf_f, frOf_t, List.cons_append, List.nil_append]))
  | ((with_reducible apply datQ); exact rfl)
  | with_reducible apply st_for
  | with_reducible apply ex_callB'
  | ((with_reducible apply callB); exact rfl; exact rfl; decide; exact rfl; exact rfl)
  | ((with_reducible apply callB_strewn); exact rfl; exact rfl; exact rfl; decide; exact rfl)
  | ((with_reducible apply callB_atom); exact rfl; exact rfl; decide; exact rfl)
  | ((with_reducible apply sl_Tlo); exact rfl)
  | ((with_reducible apply sl_Thi); exact rfl)
  | ((with_reducible apply sl_Llo); exact rfl)
  | ((with_reducible apply sl_Lhi); exact rfl)
  | ((with_reducible apply sl_Plo); exact rfl)
  | ((with_reducible apply sl_llo); exact rfl)
  | ((with_reducible apply sl_lhi); exact rfl)
  | ((with_reducible apply lcQ); exact rfl; (first | exact enN _ | exact rfl); (first | omega | (simp; omega) | (simp; done)); (intro x hx; (try simp only [List.mem_range] at hx)))
  | ((with_reducible apply tstQ); exact rfl)
  | exact eltQ rfl rfl rfl
  | ((with_reducible apply backQ); exact rfl)
  | with_reducible apply exi_seq
  | with_reducible apply exi_enum
  | with_reducible apply exi_rng1
  | with_reducible apply exi_rng2
  | ((with_reducible apply rg1); omega)
  | ((with_reducible apply rg2); omega; omega)
  | with_reducible apply exo_none
  | with_reducible apply exo_some
  | ((with_reducible apply intQ); exact rfl)
  | ((with_reducible apply lr1N); exact rfl; omega)
  | ((with_reducible apply lr2N); exact rfl; exact rfl; omega; omega)
  | ((with_reducible apply exg_name); (try dsimp only [wipeE, List.set_cons_zero, List.set_cons_succ, frOf_f, frOf_t, List.cons_append, List.nil_append]))
  | with_reducible apply exg_pr
  | ((with_reducible apply exg_tupT); exact rfl)
  | ((with_reducible apply exg_tupL); exact rfl)
  | ((with_reducible apply exgs_nil); try dsimp only [List.set_cons_zero, List.set_cons_succ, frOf_f, frOf_t, List.cons_append, List.nil_append])
  | with_reducible apply exgs_cons
  | ((with_reducible apply two_t); exact rfl)
  | ((with_reducible apply two_f); exact rfl)
  | ((with_reducible apply two_t); (simp only [decide_eq_true_eq, decide_eq_false_iff_not, Bool.not_eq_true', Bool.not_eq_false', Bool.and_eq_true, Bool.or_eq_true, Bool.and_eq_false_iff, Bool.or_eq_false_iff, eq_self, and_self, not_true_eq_false, not_false_eq_true] <;> omega))
  | ((with_reducible apply two_f); (simp only [decide_eq_true_eq, decide_eq_false_iff_not, Bool.not_eq_true', Bool.not_eq_false', Bool.and_eq_true, Bool.or_eq_true, Bool.and_eq_false_iff, Bool.or_eq_false_iff, eq_self, and_self, not_true_eq_false, not_false_eq_true] <;> omega))
  | ((with_reducible apply two_d) <;> intro _)
  | ((with_reducible apply two_n) <;> intro _)
  | ((with_reducible apply two_g) <;> (intro h; (try simp only [Bool.and_eq_true, Bool.or_eq_true, Bool.and_eq_false_iff, Bool.or_eq_false_iff, decide_eq_true_eq, decide_eq_false_iff_not, Bool.not_eq_true', Bool.not_eq_false'] at h)))
  | ((with_reducible apply imp); (intro h; (try simp only [decide_eq_true_eq, decide_eq_false_iff_not, Bool.not_eq_true', Bool.not_eq_false'] at h)))
  | ((with_reducible apply impF); (intro h; (try simp only [decide_eq_true_eq, decide_eq_false_iff_not, Bool.not_eq_true', Bool.not_eq_false'] at h)))
  | with_reducible apply samQ
  | with_reducible apply eqQ
  | with_reducible exact ⟨rfl, rfl⟩
  | with_reducible exact rfl)
/-- calls as pairs: tuples, or lists (of words) -/
def prK (k : Bool) (a b : Nat) : D := if k then .tuple [N a, N b] else .list [N a, N b]
/-- a word: a tuple or a list, of tuples or lists -/
def Wd (A : D) (ps : List (Nat × Nat)) : Prop := ∃ (k j : Bool), A = if k then .tuple (ps.map fun p => prK j p.1 p.2) else .list (ps.map fun p => prK j p.1 p.2)
theorem Wd.ps {ps : List (Nat × Nat)} : Wd (.list (Ps ps)) ps := ⟨false, true, rfl⟩
def Cx2 (A : D) (a b : Nat) : Prop := A = .tuple [N a, N b] ∨ A = .list [N a, N b]
theorem prK_cx {k : Bool} {a b : Nat} : Cx2 (prK k a b) a b := by cases k <;> simp [Cx2, prK]
theorem Cx2.pr {a b : Nat} : Cx2 (pr a b) a b := .inl rfl
theorem sqQ_Wd {ρ ρ2 : En} {r : RV} {A : D} {ps : List (Nat × Nat)} {K : List D → En → Prop} (h : Wd A ps) (e1 : dat ρ r = some A) (e2 : rel ρ r = some ρ2) (k : ∀ j, K (ps.map fun p => prK j p.1 p.2) ρ2) : SqQ ρ r K := by
  obtain ⟨k', j, rfl⟩ := h
  cases k' with
  | true => exact sqQ_t e1 e2 (k j)
  | false => exact sqQ_l e1 e2 (k j)
theorem look_person_w {n x : Nat} (h : x < n) : F_look_person [N n, N x] = some ⟨false, .none, []⟩ := look_person_spec h
theorem look_call_w {n a b : Nat} {C : D} (hC : Cx2 C a b) (ha : a < n) (hb : b < n) : F_look_call [N n, C] = some ⟨false, .none, []⟩ := by
  have h1 := look_person_w ha
  have h2 := look_person_w hb
  refine Cl.eq ?_
  unfold F_look_call
  have go : ∀ ρ, ρ = [sh (N n), sh C, none] → ForQ (bname 2) (fdrop (fcall none F_look_person (fcons (fvar 0) (fcons (fvar 2) fnil)))) [N a, N b] ρ (fun ρ => RetQ none ρ (.sh .none) fun r => r = ⟨false, .none, []⟩) (fun r ρ => RetQ none ρ r fun r => r = ⟨false, .none, []⟩) := by
    rintro ρ rfl
    refine forQ_keep (fun ρ => ∃ x, ρ = [sh (N n), sh C, x]) ⟨_, rfl⟩ ?_ ?_
    · rintro d ρ hd ⟨x, rfl⟩
      have : d = N a ∨ d = N b := by simpa using hd
      rcases this with rfl | rfl
      · repeat' (first | infer_instance | fail)
        exact ⟨_, rfl⟩
      · repeat' (first | infer_instance | fail)
        exact ⟨_, rfl⟩
    · rintro ρ ⟨x, rfl⟩
      repeat' (first | infer_instance | fail)
  rcases hC with rfl | rfl
  · repeat' (first | infer_instance | fail)
    exact go _ rfl
  · repeat' (first | infer_instance | fail)
    exact go _ rfl
theorem look_word_w {n : Nat} {A : D} {ps : List (Nat × Nat)} (hA : Wd A ps) (h : CallsOk n ps) : F_look_word [N n, A] = some ⟨false, .none, []⟩ := by
  refine Cl.eq ?_
  unfold F_look_word
  repeat' (first | infer_instance | fail)
  refine sqQ_Wd hA rfl rfl fun j => ?_
  refine forQ (l := ps) (enc := fun p => prK j p.1 p.2) (fun pre ρ => ∃ x, ρ = [sh (N n), sh A, x]) rfl ⟨_, rfl⟩ ?_ ?_
  · rintro pre ⟨a, b⟩ post ρ e ⟨x, rfl⟩
    have hp := h (a, b) (by rw [e]; simp)
    have c1 := look_call_w (n := n) (prK_cx (k := j) (a := a) (b := b)) (by simp at hp; omega) hp.2
    repeat' (first | infer_instance | fail)
    exact ⟨_, rfl⟩
  · rintro ρ ⟨x, rfl⟩
    repeat' (first | infer_instance | fail)
theorem with_joins_w {A : D} {s : List Nat} (hA : Sq A s) {p q u v : Nat} (hp : p < s.length) (hq : q < s.length) (hu : u < s.length) (hv : v < s.length) :
    F_with_joins [A, .list [pr p q, pr u v]] = some ⟨false, .tuple (Ns ((((s.set p q).set q p).set u v).set v u)), []⟩ := by
  refine Cl.eq ?_
  unfold F_with_joins
  repeat' (first | infer_instance | fail)
  refine forQ (l := [(p, q), (u, v)]) (enc := fun p => pr p.1 p.2) (fun pre ρ => ∃ x y, ρ = [sh A, sh (.list [pr p q, pr u v]), ow (.list (Ns (pre.foldl (fun f c => (f.set c.1 c.2).set c.2 c.1) s))), x, y]) rfl ⟨_, _, rfl⟩ ?_ ?_
  · rintro pre ⟨a, b⟩ post ρ e ⟨x, y, rfl⟩
    have hl : (pre.foldl (fun f c => (f.set c.1 c.2).set c.2 c.1) s).length = s.length := by
      have : ∀ (l : List (Nat × Nat)) (f : List Nat), (l.foldl (fun f c => (f.set c.1 c.2).set c.2 c.1) f).length = f.length := fun l => by
        induction l with
        | nil => intro f; rfl
        | cons x l ih => intro f; rw [List.foldl_cons, ih]; simp
      exact this pre s
    have hm : (a, b) ∈ [(p, q), (u, v)] := by rw [e]; simp
    have : a < s.length ∧ b < s.length := by
      simp at hm
      rcases hm with ⟨rfl, rfl⟩ | ⟨rfl, rfl⟩
      · exact ⟨hp, hq⟩
      · exact ⟨hu, hv⟩
    obtain ⟨ha, hb⟩ := this
    repeat' (first | infer_instance | fail)
    exact ⟨sh (N a), sh (N b), by simp⟩
  · rintro ρ ⟨x, y, rfl⟩
    repeat' (first | infer_instance | fail)
    rfl
theorem added_w {n a b : Nat} {A C : D} {s : List Nat} (hA : Sq A s) (hC : Cx2 C a b) (J : Joined (2 * n) s) (hn : n ≤ 1000) (hab : a < b) (hb : b < n) : F_added [A, C] = some ⟨false, .tuple (Ns (addS n s a b)), []⟩ := by
  have hl := J.len
  have c1 := people_w hA hl
  have hx := J.lt (x := n + a) (by omega)
  have hy := J.lt (x := n + b) (by omega)
  have c2 := with_joins_w hA (p := gt s (n + a)) (q := gt s (n + b)) (u := n + a) (v := n + b) (by omega) (by omega) (by omega) (by omega)
  have i0 : gIx C (N 0) = some (.it (N a)) := by rcases hC with rfl | rfl <;> rfl
  have i1 : gIx C (N 1) = some (.it (N b)) := by rcases hC with rfl | rfl <;> rfl
  refine Cl.eq ?_
  unfold F_added
  repeat' (first | infer_instance | fail)
  · show _ = FR.mk false (.tuple (Ns (addS n s a b))) []
    unfold addS
    rw [if_pos (by assumption)]
  · refine callQ_sh rfl c2 rfl ?_
    repeat' (first | infer_instance | fail)
    unfold addS
    rw [if_neg (by assumption)]
theorem sheet_of_w {n : Nat} {A : D} {ps : List (Nat × Nat)} (hA : Wd A ps) (h : CallsOk n ps) (hn : n ≤ 1000) : F_sheet_of [N n, A] = some ⟨false, .tuple (Ns (shW n ps)), []⟩ := by
  have c1 := look_word_w hA h
  have c2 := empty_w hn
  refine Cl.eq ?_
  unfold F_sheet_of
  repeat' (first | infer_instance | fail)
  refine sqQ_Wd hA rfl rfl fun j => ?_
  refine forQ (l := ps) (enc := fun p => prK j p.1 p.2) (fun pre ρ => ∃ x, ρ = [sh (N n), sh A, sh (.tuple (Ns (shW n pre))), x]) rfl ⟨_, rfl⟩ ?_ ?_
  · rintro pre ⟨a, b⟩ post ρ e ⟨x, rfl⟩
    have hp := CallsOk.app (e ▸ h)
    obtain ⟨hab, hb⟩ := hp.2 (a, b) (by simp)
    have c3 := added_w .t (prK_cx (k := j)) (shW_joined hp.1) hn hab hb
    rw [shW_snoc]
    repeat' (first | infer_instance | fail)
    exact ⟨_, rfl⟩
  · rintro ρ ⟨x, rfl⟩
    repeat' (first | infer_instance | fail)
def Ts (l : List (List Nat)) : List D := l.map fun q => PyData.tuple (Ns q)
end Sh
set_option Elab.async false
set_option linter.all false
set_option maxRecDepth 100000
set_option maxHeartbeats 4000000
namespace Sh
open PySem PySem.Spec PyProof.Rows L2 DL
def F_law_same : Nat → FS
  | 0 => fun _ => none
  | m + 1 => toF 2 4 none (fseq (fifS (fbool (fop1 (gIsi2 "list" "tuple") (fvar 1))) (fseq (fifS (forT (fbool (fop2 gNe (fop1 (gIsi "list") (fvar 0)) (fop1 (gIsi "list") (fvar 1)))) (fbool (fop2 gNe (fop1 (gIsi "tuple") (fvar 0)) (fop1 (gIsi "tuple") (fvar 1))))) (fret (fc (.bool false))) fskip)
    (fret (fand (fop2 gEq (fopA gLen (fcons (fvar 0) fnil)) (fopA gLen (fcons (fvar 1) fnil))) (fopA gAll (fcons (flc [2, 3] (fizip (fcons (fvar 0) (fcons (fvar 1) fnil))) (btup 2 (bcons (bname 2) (bcons (bname 3) bnil))) ftrue (fcall none (F_law_same m) (fcons (fvar 2) (fcons (fvar 3) fnil)))) fnil))))) fskip)
    (fseq (fifS (forT (fbool (fop2 gIs (fvar 1) (fc .none))) (fbool (fop1 (gIsi2 "str" "bool") (fvar 1)))) (fret (fand (fop2 gEq (fvar 0) (fvar 1)) (fand (fop2 gEq (fop1 (gIsi "bool") (fvar 0)) (fop1 (gIsi "bool") (fvar 1))) (fop2 gEq (fop2 gIs (fvar 0) (fc .none)) (fop2 gIs (fvar 1) (fc .none)))))) fskip)
    (fret (fand (fop1 (gIsi "int") (fvar 0)) (fand (fnot (fop1 (gIsi "bool") (fvar 0))) (fop2 gEq (fvar 0) (fvar 1)))))))
/-- data that is nested less than so deep -/
inductive Good : Nat → D → Prop
  | int {m : Nat} (i : Int) : Good (m + 1) (.int i)
  | bool {m : Nat} (b : Bool) : Good (m + 1) (.bool b)
  | none {m : Nat} : Good (m + 1) .none
  | str {m : Nat} (x : Str) : Good (m + 1) (.str x)
  | list {m : Nat} {ds : List D} : (∀ d ∈ ds, Good m d) → ds.length ≤ 16777216 → Good (m + 1) (.list ds)
  | tuple {m : Nat} {ds : List D} : (∀ d ∈ ds, Good m d) → ds.length ≤ 16777216 → Good (m + 1) (.tuple ds)
end Sh
set_option Elab.async false
set_option linter.all false
set_option maxRecDepth 100000
set_option maxHeartbeats 4000000
namespace Sh
open PySem PySem.Spec PyProof.Rows L2 DL
section
end
end Sh
set_option Elab.async false
set_option linter.all false
set_option maxRecDepth 100000
set_option maxHeartbeats 4000000
namespace Sh
open PySem PySem.Spec PyProof.Rows L2 DL
section
end
structure Rp (m w : Nat) (d : D) : Prop where
  lay : d.canLay0 = true
  dep : d.depth ≤ m
  wt : d.weight ≤ w
  sh : d.intsShort 13 = true
  sw : d.showable = true
structure RpA (m w : Nat) (ds : List D) : Prop where
  lay : PyData.canLayAll0 ds = true
  dep : PyData.depthAll ds ≤ m
  wt : PyData.weightAll ds ≤ w
  sh : PyData.intsShortAll 13 ds = true
  sw : PyData.showableAll ds = true
theorem Rp.int {m : Nat} {i : Int} (h : i.natAbs < 2 ^ 39) : Rp m 40 (.int i) := by
  have hl : i.natAbs.log2 < 40 := by
    by_cases h0 : i.natAbs = 0
    · rw [h0]; decide
    · rw [Nat.log2_lt h0]; omega
  refine ⟨by simp [PyData.canLay0], by simp [PyData.depth], ?_, ?_, ?_⟩
  · simp only [PyData.weight]; split <;> omega
  · simp only [PyData.intsShort, decide_eq_true_eq]; exact PyData.shown_int_le (by omega)
  · simp only [PyData.showable, decide_eq_true_eq]; omega
theorem RpA.list {m w : Nat} {ds : List D} (h : RpA m w ds) : Rp (m + 1) w (.list ds) :=
  ⟨by simpa [PyData.canLay0] using h.lay, by simp only [PyData.depth]; have := h.dep; omega, by simpa [PyData.weight] using h.wt, by simpa [PyData.intsShort] using h.sh, by simpa [PyData.showable] using h.sw⟩
theorem RpA.tuple {m w : Nat} {ds : List D} (h : RpA m w ds) : Rp (m + 1) w (.tuple ds) :=
  ⟨by simpa [PyData.canLay0] using h.lay, by simp only [PyData.depth]; have := h.dep; omega, by simpa [PyData.weight] using h.wt, by simpa [PyData.intsShort] using h.sh, by simpa [PyData.showable] using h.sw⟩
theorem boolsOf_m {α : Type} (p : α → Bool) : ∀ l : List α, boolsOf (l.map fun x => PyData.bool (p x)) = some (l.map p)
  | [] => rfl
  | x :: l => by
    show (boolsOf (l.map fun x => PyData.bool (p x))).map _ = _
    rw [boolsOf_m p l]; rfl
theorem gAll_m {α : Type} {p : α → Bool} {l : List α} : gAll [.list (l.map fun x => PyData.bool (p x))] = some (.it (.bool (l.all p))) := by
  show (boolsOf _).map _ = _
  rw [boolsOf_m]
  simp [Function.comp_def]
theorem gAll_c {α : Type} {l : List α} : gAll [.list (l.map fun _ => PyData.bool true)] = some (.it (.bool true)) := by
  rw [gAll_m (p := fun _ => true)]
  simp
end Sh
set_option Elab.async false
set_option linter.all false
set_option maxRecDepth 100000
set_option maxHeartbeats 4000000
namespace Sh
open PySem PySem.Spec PyProof.Rows L2 DL
def F_law_ends_from : FS := toF 3 5 none (fseq (fset [3] (f1 (fopA gLen (fcons (fvar 1) fnil))))
    (fseq (fset [4] (f1 (flst (fcons (fop2 gAdd (fvar 3) (fvar 2)) (fcons (fop2 gIx (fvar 0) (fop2 gAdd (fvar 3) (fvar 2))) fnil)))))
    (fseq (whileD (fbool (fop2 gLt (fop2 gIx (fvar 4) (fop1 gNeg (fc (.int 1)))) (fvar 3))) (fset [4] (f1 (fop2 gAdd (fvar 4) (flst (fcons (fop2 gIx (fvar 1) (fop2 gIx (fvar 4) (fop1 gNeg (fc (.int 1))))) (fcons (fop2 gIx (fvar 0) (fop2 gIx (fvar 1) (fop2 gIx (fvar 4) (fop1 gNeg (fc (.int 1)))))) fnil)))))) 1000000)
    (fret (fvar 4)))))
def F_law_read : FS := toF 2 3 none (fret (fopA gTuple (fcons (flc [2] (firng1 (fcons (fopA gLen (fcons (fvar 1) fnil)) fnil)) (bname 2) ftrue (fop2 gSub (fop2 gIx (fcall none F_law_ends_from (fcons (fvar 0) (fcons (fvar 1) (fcons (fvar 2) fnil)))) (fop1 gNeg (fc (.int 1)))) (fopA gLen (fcons (fvar 1) fnil)))) fnil)))
end Sh
set_option Elab.async false
set_option linter.all false
set_option maxRecDepth 100000
set_option maxHeartbeats 4000000
namespace Sh
open PySem PySem.Spec PyProof.Rows L2 DL Sh
def F_law_with : FS := toF 2 8 none (fseq (fset [2, 3] (fcons (fop2 gFdiv (fopA gLen (fcons (fvar 0) fnil)) (fc (.int 2))) (fcons (fopA gList (fcons (fvar 0) fnil)) fnil)))
    (fseq (fset [4, 5] (fcons (fop2 gAdd (fvar 2) (fop2 gIx (fvar 1) (fc (.int 0)))) (fcons (fop2 gAdd (fvar 2) (fop2 gIx (fvar 1) (fc (.int 1)))) fnil)))
    (fseq (fset [6, 7] (fcons (fop2 gIx (fvar 0) (fvar 4)) (fcons (fop2 gIx (fvar 0) (fvar 5)) fnil)))
    (fseq (fifS (fbool (fop2 gNe (fvar 6) (fvar 5))) (fasg (btup 4 (bcons (bsub 3 (fvar 4)) (bcons (bsub 3 (fvar 5)) (bcons (bsub 3 (fvar 6)) (bcons (bsub 3 (fvar 7)) bnil))))) (ftup (fcons (fvar 5) (fcons (fvar 4) (fcons (fvar 7) (fcons (fvar 6) fnil)))))) fskip)
    (fret (fopA gTuple (fcons (fvar 3) fnil)))))))
end Sh
set_option Elab.async false
set_option linter.all false
set_option maxRecDepth 100000
set_option maxHeartbeats 4000000
namespace Sh
open PySem PySem.Spec PyProof.Rows L2 DL
section
end
end Sh
set_option Elab.async false
set_option linter.all false
set_option maxRecDepth 100000
set_option maxHeartbeats 4000000
namespace Sh
open PySem PySem.Spec PyProof.Rows L2 DL
section
end
end Sh
set_option Elab.async false
set_option linter.all false
set_option maxRecDepth 100000
set_option maxHeartbeats 1000000
namespace Sh
def lowEq (n : Nat) (x y : List Nat) : Prop := ∀ e, n ≤ e → e < 2 * n → (n ≤ gt x e ∨ n ≤ gt y e) → gt x e = gt y e
theorem lowEq.symm {n : Nat} {x y : List Nat} (h : lowEq n x y) : lowEq n y x := fun e h1 h2 h3 => (h e h1 h2 h3.symm).symm
theorem lowEq.trans {n : Nat} {x y z : List Nat} (h : lowEq n x y) (h' : lowEq n y z) : lowEq n x z := fun e h1 h2 h3 => by
  rcases h3 with h3 | h3
  · have q := h e h1 h2 (.inl h3)
    rw [q] at h3 ⊢
    exact h' e h1 h2 (.inl h3)
  · have q := h' e h1 h2 (.inr h3)
    rw [← q] at h3 ⊢
    exact h e h1 h2 (.inr h3)
section
end
noncomputable def pw {n : Nat} {a : List Nat} (Ja : Joined (2 * n) a) (h0 : 0 < n) (hn : n ≤ 1000) (k : Nat) : List Nat := Classical.choose (pow_ex Ja h0 hn k)
section
variable {n : Nat} {a : List Nat} (Ja : Joined (2 * n) a) (h0 : 0 < n) (hn : n ≤ 1000)
theorem pw_pow (k : Nat) : Pow n a k (pw Ja h0 hn k) := Classical.choose_spec (pow_ex Ja h0 hn k)
theorem pw_J (k : Nat) : Joined (2 * n) (pw Ja h0 hn k) := Pow.joined Ja (pw_pow Ja h0 hn k)
theorem pw_eq {k : Nat} {s : List Nat} (h : Pow n a k s) : s = pw Ja h0 hn k := Pow.uniq Ja h (pw_pow Ja h0 hn k)
theorem pw_zero : pw Ja h0 hn 0 = idS n := (pw_eq Ja h0 hn (k := 0) (s := idS n) rfl).symm
theorem pw_succ (k : Nat) : Comp n [pw Ja h0 hn k, a] (pw Ja h0 hn (k + 1)) := by
  obtain ⟨c, C⟩ := comp_ex (pw_J Ja h0 hn k) Ja h0 hn
  have e := pw_eq Ja h0 hn (k := k + 1) (s := c) ⟨_, pw_pow Ja h0 hn k, C⟩
  rwa [e] at C
end
end Sh
set_option Elab.async false
set_option linter.all false
set_option maxRecDepth 100000
set_option maxHeartbeats 4000000
namespace Sh
open PySem PySem.Spec PyProof.Rows L2 DL
local macro_rules | `(tactic| infer_instance) => `(tactic| first
  | with_reducible apply st_seq
  | ((with_reducible apply cl_toF); (simp +decide only [en0, enA, List.length_cons, List.length_nil, List.cons_append, List.nil_append, List.replicate, ↓reduceIte, Nat.reduceAdd, Nat.reduceSub, Nat.zero_add] <;> exact rfl); exact rfl)
  | with_reducible apply st_set
  | with_reducible apply st_ph
  | with_reducible apply pst_set
  | ((with_reducible apply psetQ); (first | (simp [allFrL]; done) | (simp [allFrL]; omega) | (simp [allFrL, Ts]; omega)); exact rfl; exact rfl; (try dsimp only [List.set_cons_zero, List.set_cons_succ, frOf_f, frOf_t, List.cons_append, List.nil_append]))
  | ((with_reducible apply pst_if); exact rfl)
  | ((with_reducible apply pst_mut); exact rfl; (simp; done); decide)
  | with_reducible apply pst_end
  | with_reducible apply st_asg
  | with_reducible apply st_if
  | with_reducible apply st_ret
  | with_reducible apply st_drop
  | with_reducible apply st_skip
  | with_reducible apply st_retN
  | with_reducible apply exa_nil
  | with_reducible apply exa_cons
  | with_reducible apply exa_f1
  | with_reducible apply exa_perm
  | with_reducible apply exa_app
  | ((with_reducible apply ex_var_sh); exact rfl)
  | ((with_reducible apply ex_var_al); exact rfl; decide)
  | with_reducible apply ex_fc0 | with_reducible apply ex_fc1 | with_reducible apply ex_fc2 | with_reducible apply ex_fc3 | with_reducible apply ex_fc4 | with_reducible apply ex_fc5 | with_reducible apply ex_fc6 | with_reducible apply ex_fc7 | with_reducible apply ex_fc8 | with_reducible apply ex_fc9 | with_reducible apply ex_fc10 | with_reducible apply ex_fc11 | with_reducible apply ex_fc12 | with_reducible apply ex_fc14 | with_reducible apply ex_fc16 | with_reducible apply ex_fc18 | with_reducible apply ex_fc20 | with_reducible apply ex_fc21 | with_reducible apply ex_fc26 | with_reducible apply ex_fc30 | with_reducible apply ex_fc40 | with_reducible apply ex_fc41 | with_reducible apply ex_fc50 | with_reducible apply ex_fc60 | with_reducible apply ex_fc61 | with_reducible apply ex_fc80 | with_reducible apply ex_fc100 | with_reducible apply ex_fc300 | with_reducible apply ex_fc400
  | with_reducible apply ex_fc
  | with_reducible apply ex_op2
  | with_reducible apply ex_opA
  | with_reducible apply ex_op1
  | with_reducible apply ex_tup
  | with_reducible apply ex_lst
  | with_reducible apply ex_fdctT
  | with_reducible apply ex_fdctK
  | ((with_reducible apply exg_putQ); exact rfl; decide)
  | ((with_reducible apply op2_it); exact rfl; exact rfl; with_reducible exact nin_Td)
  | ((with_reducible apply opA_it); exact rfl; with_reducible exact len_Td)
  | with_reducible apply ex_call
  | with_reducible apply ex_lc
  | with_reducible apply ex_rep
  | ((with_reducible apply repQ_2); exact rfl)
  | ((with_reducible apply repQ_3); exact rfl)
  | ((with_reducible apply repAQ_P); exact rfl; decide; exact rfl; omega; omega)
  | ((with_reducible apply repQ_N); exact rfl; omega)
  | ((with_reducible apply nrm); (try simp only [filt_true, map_Ns, map_Ps, map_Ps', List.map_id_fun', List.map_id']))
  | ((with_reducible apply ex_meth); exact rfl; decide)
  | ((with_reducible apply methQ); exact rfl; exact rfl; exact rfl; decide; (first | ((with_reducible apply gAppend_N); (first | omega | (simp only [List.length_set, List.length_append, List.length_map, List.length_range, List.length_replicate, List.length_cons, List.length_nil, Ns_len, Ps_len]; omega) | (simp; omega))) | ((with_reducible apply gAppend_d); (first | omega | (simp only [List.length_set, List.length_append, List.length_map, List.length_range, List.length_replicate, List.length_cons, List.length_nil, Ns_len, Ps_len]; omega) | (simp; omega))) | with_reducible assumption); (try dsimp only [List.set_cons_zero, List.set_cons_succ, frOf_f, frOf_t, List.cons_append, List.nil_append]))
  | ((with_reducible apply exg_subQ); exact rfl; decide)
  | ((with_reducible apply subQ_N); exact rfl; exact rfl; decide; (first | omega | (simp only [List.length_set, List.length_append, List.length_map, List.length_range, List.length_replicate]; omega) | (simp; omega)); (try dsimp only [List.set_cons_zero, List.set_cons_succ, frOf_f, frOf_t, List.cons_append, List.nil_append]))
  | with_reducible apply ex_slice
  | with_reducible apply ex_chain
  | with_reducible apply ex_lrg1
  | with_reducible apply ex_lrg2
  | with_reducible apply ex_and
  | with_reducible apply ex_or
  | with_reducible apply ex_not
  | with_reducible apply ex_if
  | with_reducible apply ext_bool
  | with_reducible apply ext_not
  | with_reducible apply ext_and
  | with_reducible apply ext_andI
  | with_reducible apply ext_orI
  | with_reducible apply ex_andJ
  | with_reducible apply ex_repA
  | with_reducible apply ext_or
  | with_reducible apply ext_true
  | ((with_reducible apply setQ); exact rfl; exact rfl; exact rfl; (try dsimp only [List.set_cons_zero, List.set_cons_succ, frOf_f, frOf_t, List.cons_append, List.nil_append]))
  | ((with_reducible apply seqQ); exact rfl; exact rfl; (try dsimp only [List.set_cons_zero, List.set_cons_succ, frOf_f, frOf_t, List.cons_append, List.nil_append]))
  | ((with_reducible apply asgQ); exact rfl; exact rfl)
  | with_reducible apply boolQ
  | ((with_reducible apply op2_it); exact rfl; exact rfl; first | with_reducible exact gAdd_N | ((with_reducible apply gSub_N) <;> omega) | ((with_reducible apply gSub_N); (apply_assumption -symm -exfalso (transparency := .reducible) only [*] <;> first | with_reducible assumption | omega)) | ((with_reducible apply gMul_N) <;> omega) | ((with_reducible apply gFdiv_N) <;> omega) | ((with_reducible apply gMod_N) <;> omega) | with_reducible exact gLt_N | with_reducible exact gLe_N | with_reducible exact gGt_N | with_reducible exact gGe_N | with_reducible exact gEq_N | with_reducible exact gNe_N | ((with_reducible apply gIx_T) <;> omega) | ((with_reducible apply gIx_L) <;> omega) | ((with_reducible apply gIx_T); (apply_assumption -symm -exfalso (transparency := .reducible) only [*] <;> first | with_reducible assumption | omega)) | ((with_reducible apply gIx_L); (apply_assumption -symm -exfalso (transparency := .reducible) only [*] <;> first | with_reducible assumption | omega)) | with_reducible exact gIx_pr0 | with_reducible exact gIx_p0 | with_reducible exact gIx_p1 | with_reducible exact gIx_pr1 | with_reducible exact gIx_l0 | with_reducible exact gIx_l1 | with_reducible exact gEq_T | with_reducible exact gNe_T | with_reducible exact gEq_L | with_reducible exact gNe_L | with_reducible exact gNe_Lnil | with_reducible exact gIs_non | with_reducible exact gNis_non | with_reducible exact gNis_B | with_reducible exact gIs_B | with_reducible exact gEq_str | with_reducible exact gEq_non | with_reducible exact gNe_str | with_reducible exact gAdd_I | with_reducible exact gSub_I | with_reducible exact gEq_I | with_reducible exact gNe_I | with_reducible exact gLt_I | with_reducible exact gLe_I | with_reducible exact gGt_I | with_reducible exact gGe_I | with_reducible exact gEq_B | with_reducible exact gNe_B | with_reducible assumption)
  | ((with_reducible apply op2_it); exact rfl; exact rfl; (refine Sq.ix (by with_reducible assumption) ?_); first | omega | with_reducible assumption)
  | ((with_reducible apply op2_it); exact rfl; exact rfl; with_reducible exact gIx_last)
  | ((with_reducible apply op2_it); exact rfl; exact rfl; with_reducible exact gIx_lastd)
  | ((with_reducible apply op2_it); exact rfl; exact rfl; with_reducible exact gIx_last2)
  | ((with_reducible apply op2_it); exact rfl; exact rfl; (with_reducible apply gIx_Lz); first | with_reducible assumption | (simp; done) | (apply_assumption -symm -exfalso (transparency := .reducible) only [*] <;> first | with_reducible assumption | omega))
  | ((with_reducible apply op2_catTN); exact rfl; exact rfl; (simp; omega))
  | ((with_reducible apply op2_catLN); exact rfl; exact rfl; (simp; omega))
  | ((with_reducible apply op2_nl); exact rfl; exact rfl; (first | ((with_reducible apply gAdd_L) <;> (first | omega | (simp; done) | (simp; omega))) | with_reducible assumption); (try dsimp only [List.cons_append, List.nil_append]))
  | ((with_reducible apply op1_it); exact rfl; first | with_reducible exact gNeg_N | ((with_reducible apply gIsi_x); first | exact rfl | with_reducible assumption) | ((with_reducible apply gIsi2_x); first | exact rfl | with_reducible assumption))
  | ((with_reducible apply opA_it); exact rfl; first | with_reducible exact gLen_T | with_reducible exact gLen_L | with_reducible exact gLen_l | with_reducible exact gLen_t | with_reducible exact gTuple_T | with_reducible exact gMax_N | with_reducible exact gMin_N | with_reducible exact gInt_B | with_reducible exact gAll_c | with_reducible exact gAll_m | with_reducible exact gAny_m | with_reducible assumption)
  | ((with_reducible apply opA_it); exact rfl; exact Sq.len (by with_reducible assumption))
  | ((with_reducible apply opA_nl); exact rfl; exact Sq.lst (by with_reducible assumption))
  | ((with_reducible apply opA_tupSq); exact rfl; with_reducible assumption)
  | ((with_reducible apply opA_nl); exact rfl; first | with_reducible exact gList_L | with_reducible exact gList_T | with_reducible exact gList_pr)
  | ((with_reducible apply opA_nt); exact rfl; first | with_reducible exact gTuple_L)
  | ((with_reducible apply callQ_sh); exact rfl; with_reducible assumption; exact rfl; (try dsimp only [List.set_cons_zero, List.set_cons_succ, frOf_f, frOf_t, List.cons_append, List.nil_append]))
  | ((with_reducible apply callQ_fr); exact rfl; with_reducible assumption; exact rfl; (try dsimp only [List.set_cons_zero, List.set_cons_succ, frOf_f, frOf_t, List.cons_append, List.nil_append]))
  | ((with_reducible apply callQ_sh); exact rfl; (apply_assumption -symm -exfalso (transparency := .reducible) only [*] <;> first | with_reducible assumption | omega); exact rfl; (try dsimp only [List.set_cons_zero, List.set_cons_succ, frOf_f, frOf_t, List.cons_append, List.nil_append]))
  | ((with_reducible apply callQ_fr); exact rfl; (apply_assumption -symm -exfalso (transparency := .reducible) only [*] <;> first | with_reducible assumption | omega); exact rfl; (try dsimp only [List.set_cons_zero, List.set_cons_succ, frOf_f, frOf_t, List.cons_append, List.nil_append]))
  | ((with_reducible apply chQ); exact rfl; exact rfl; first | with_reducible exact gLt_N | with_reducible exact gLe_N | with_reducible exact gGt_N | with_reducible exact gGe_N | with_reducible exact gEq_N | with_reducible exact gNe_N)
  | ((with_reducible apply retQ); exact rfl; exact rfl)
  | ((with_reducible apply sqQ_Sq); exact rfl; with_reducible assumption; exact rfl; (try dsimp only [List.set_cons_zero, List.set_cons_succ, frOf_f, frOf_t, List.cons_append, List.nil_append]))
  | ((with_reducible apply sqQ_t); exact rfl; exact rfl; (try dsimp only [List.set_cons_zero, List.set_cons_succ, frOf_f, frOf_t, List.cons_append, List.nil_append]))
  | ((with_reducible apply sqQ_l); exact rfl; exact rfl; (try dsimp only [List.set_cons_zero, List.set_cons_succ, frOf_f, frOf_t, List.cons_append, List.nil_append]))
  | ((with_reducible apply datQ); exact rfl)
  | with_reducible apply st_for
  | with_reducible apply ex_callB'
  | ((with_reducible apply callB); exact rfl; exact rfl; decide; exact rfl; exact rfl)
  | ((with_reducible apply callB_strewn); exact rfl; exact rfl; exact rfl; decide; exact rfl)
  | ((with_reducible apply callB_atom); exact rfl; exact rfl; decide; exact rfl)
  | ((with_reducible apply sl_Tlo); exact rfl)
  | ((with_reducible apply sl_Thi); exact rfl)
  | ((with_reducible apply sl_Llo); exact rfl)
  | ((with_reducible apply sl_Lhi); exact rfl)
  | ((with_reducible apply sl_Plo); exact rfl)
  | ((with_reducible apply sl_llo); exact rfl)
  | ((with_reducible apply sl_lhi); exact rfl)
  | ((with_reducible apply lcQ); exact rfl; (first | exact enN _ | exact rfl); (first | omega | (simp; omega) | (simp; done)); (intro x hx; (try simp only [List.mem_range] at hx)))
  | ((with_reducible apply tstQ); exact rfl)
  | exact eltQ rfl rfl rfl
  | ((with_reducible apply backQ); exact rfl)
  | with_reducible apply exi_seq
  | with_reducible apply exi_enum
  | with_reducible apply exi_rng1
  | with_reducible apply exi_rng2
  | ((with_reducible apply rg1); omega)
  | ((with_reducible apply rg2); omega; omega)
  | with_reducible apply exo_none
  | with_reducible apply exo_some
  | ((with_reducible apply intQ); exact rfl)
  | ((with_reducible apply lr1N); exact rfl; omega)
  | ((with_reducible apply lr2N); exact rfl; exact rfl; omega; omega)
  | ((with_reducible apply exg_name); (try dsimp only [wipeE, List.set_cons_zero, List.set_cons_succ, frOf_f, frOf_t, List.cons_append, List.nil_append]))
  | with_reducible apply exg_pr
  | ((with_reducible apply exg_tupT); exact rfl)
  | ((with_reducible apply exg_tupL); exact rfl)
  | ((with_reducible apply exgs_nil); try dsimp only [List.set_cons_zero, List.set_cons_succ, frOf_f, frOf_t, List.cons_append, List.nil_append])
  | with_reducible apply exgs_cons
  | ((with_reducible apply two_t); exact rfl)
  | ((with_reducible apply two_f); exact rfl)
  | ((with_reducible apply two_t); (simp only [decide_eq_true_eq, decide_eq_false_iff_not, Bool.not_eq_true', Bool.not_eq_false', Bool.and_eq_true, Bool.or_eq_true, Bool.and_eq_false_iff, Bool.or_eq_false_iff, eq_self, and_self, not_true_eq_false, not_false_eq_true] <;> omega))
  | ((with_reducible apply two_f); (simp only [decide_eq_true_eq, decide_eq_false_iff_not, Bool.not_eq_true', Bool.not_eq_false', Bool.and_eq_true, Bool.or_eq_true, Bool.and_eq_false_iff, Bool.or_eq_false_iff, eq_self, and_self, not_true_eq_false, not_false_eq_true] <;> omega))
  | ((with_reducible apply two_d) <;> intro _)
  | ((with_reducible apply two_n) <;> intro _)
  | ((with_reducible apply two_g) <;> (intro h; (try simp only [Bool.and_eq_true, Bool.or_eq_true, Bool.and_eq_false_iff, Bool.or_eq_false_iff, decide_eq_true_eq, decide_eq_false_iff_not, Bool.not_eq_true', Bool.not_eq_false'] at h)))
  | ((with_reducible apply imp); (intro h; (try simp only [decide_eq_true_eq, decide_eq_false_iff_not, Bool.not_eq_true', Bool.not_eq_false'] at h)))
  | ((with_reducible apply impF); (intro h; (try simp only [decide_eq_true_eq, decide_eq_false_iff_not, Bool.not_eq_true', Bool.not_eq_false'] at h)))
  | with_reducible apply samQ
  | with_reducible apply eqQ
  | with_reducible exact ⟨rfl, rfl⟩
  | with_reducible exact rfl)
theorem times_w {n : Nat} {A : D} {a : List Nat} (hA : Sq A a) (Ja : Joined (2 * n) a) (h0 : 0 < n) (hn : n ≤ 1000) {m : Nat} (hm : m < 2 ^ 60) : F_times [A, N m] = some ⟨false, .tuple (Ns (pw Ja h0 hn m)), []⟩ := by
  suffices H : Cl F_times [A, N m] fun q => ∃ s, q = ⟨false, .tuple (Ns s), []⟩ ∧ Pow n a m s by
    obtain ⟨q, h1, s, rfl, h2⟩ := H
    rw [h1, pw_eq Ja h0 hn h2]
  have c1 := people_w hA Ja.len
  have c2 := empty_w hn
  unfold F_times
  repeat' (first | infer_instance | fail)
  refine st_while 60 (fun k ρ => ∃ f st x y l, ρ = [sh A, sh (N m), sh (.tuple (Ns f)), sh (.tuple (Ns st)), sh (N l)] ∧ Pow n a x f ∧ Pow n a y st ∧ x + y * l = m ∧ l < 2 ^ k) ⟨_, a, 0, 1, m, rfl, rfl, Pow.one Ja, by omega, hm⟩ (by omega) ?_
  rintro k ρ ⟨f, st, x, y, l, rfl, hf, hs, hx, hl⟩
  obtain ⟨c, e1, C1⟩ := followed_spec (Pow.joined Ja hf) (Pow.joined Ja hs) h0 hn
  obtain ⟨d, e2, C2⟩ := followed_spec (Pow.joined Ja hs) (Pow.joined Ja hs) h0 hn
  have p1 := Pow.add Ja h0 hn hf hs C1
  have p2 := Pow.add Ja h0 hn hs hs C2
  have hk : 0 < l → 0 < k := fun h => by
    cases k with
    | zero => omega
    | succ k => omega
  have hdiv : y * l = y * (2 * (l / 2)) + y * (l % 2) := by rw [← Nat.mul_add, Nat.div_add_mod]
  repeat' (first | infer_instance | fail)
  · have hl2 : l % 2 = 1 := by assumption
    refine ⟨k - 1, by omega, _, _, x + y, y + y, l / 2, rfl, p1, p2, ?_, ?_⟩
    · rw [← hx, hdiv, hl2, Nat.mul_one, Nat.mul_left_comm, ← Nat.two_mul, Nat.mul_assoc]; omega
    · obtain ⟨k', rfl⟩ : ∃ k', k = k' + 1 := ⟨k - 1, by omega⟩
      rw [Nat.pow_succ] at hl
      simp; omega
  · refine ⟨k - 1, by omega, _, _, x, y + y, l / 2, rfl, hf, p2, ?_, ?_⟩
    · rw [← hx, hdiv, show l % 2 = 0 by omega, Nat.mul_zero, Nat.add_zero, Nat.mul_left_comm, ← Nat.two_mul, Nat.mul_assoc]
    · obtain ⟨k', rfl⟩ : ∃ k', k = k' + 1 := ⟨k - 1, by omega⟩
      rw [Nat.pow_succ] at hl
      simp; omega
  · refine ⟨f, rfl, ?_⟩
    have : l = 0 := by omega
    subst this
    rw [Nat.mul_zero, Nat.add_zero] at hx
    subst hx; exact hf
end Sh
set_option Elab.async false
set_option linter.all false
set_option maxRecDepth 100000
set_option maxHeartbeats 4000000
namespace Sh
open PySem PySem.Spec PyProof.Rows L2 DL
section
end
section
end
end Sh
set_option Elab.async false
set_option linter.all false
set_option maxRecDepth 100000
set_option maxHeartbeats 4000000
namespace Sh
open PySem PySem.Spec PyProof.Rows L2 DL
section
end
theorem intsOf_Ns : ∀ l : List Nat, intsOf (Ns l) = some (l.map fun x : Nat => (x : Int))
  | [] => rfl
  | x :: l => by
    show (intsOf (Ns l)).map _ = _
    rw [intsOf_Ns l]; rfl
end Sh
set_option Elab.async false
set_option linter.all false
set_option maxRecDepth 100000
set_option maxHeartbeats 4000000
namespace Sh
open PySem PySem.Spec PyProof.Rows L2 DL
def Vf (c : Nat) : D → Prop
  | .none => True
  | .bool _ => True
  | .int i => i.natAbs ≤ 10 ^ 30 + c
  | .str x => PyData.canLay0 (.str x) = true ∧ x.cps.size ≤ 100
  | _ => False
def Vl (c : Nat) : Nat → D → Prop
  | 0, d => Vf c d
  | m + 1, d => Vf c d ∨ ∃ ds, (d = .list ds ∨ d = .tuple ds) ∧ ds.length ≤ 50 + c ∧ ∀ x ∈ ds, Vl c m x
theorem Vl.list {c m : Nat} {ds : List D} (hl : ds.length ≤ 50 + c) (h : ∀ x ∈ ds, Vl c m x) : Vl c (m + 1) (.list ds) := .inr ⟨ds, .inl rfl, hl, h⟩
theorem Vl.tuple {c m : Nat} {ds : List D} (hl : ds.length ≤ 50 + c) (h : ∀ x ∈ ds, Vl c m x) : Vl c (m + 1) (.tuple ds) := .inr ⟨ds, .inr rfl, hl, h⟩
structure Rq (m : Nat) (d : D) : Prop where
  lay : d.canLay0 = true
  dep : d.depth ≤ m
  sh : d.intsShort 40 = true
  sw : d.showable = true
end Sh
set_option Elab.async false
set_option linter.all false
set_option maxRecDepth 100000
set_option maxHeartbeats 4000000
namespace Sv
open PySem PySem.Spec PyProof.Rows L2 DL Sh
local macro_rules | `(tactic| infer_instance) => `(tactic| first
  | with_reducible apply st_seq
  | ((with_reducible apply cl_toF); (simp +decide only [en0, enA, List.length_cons, List.length_nil, List.cons_append, List.nil_append, List.replicate, ↓reduceIte, Nat.reduceAdd, Nat.reduceSub, Nat.zero_add] <;> exact rfl); exact rfl)
  | with_reducible apply st_set
  | with_reducible apply st_ph
  | with_reducible apply pst_set
  | ((with_reducible apply psetQ); (first | (simp [allFrL]; done) | (simp [allFrL]; omega) | (simp [allFrL, Ts]; omega)); exact rfl; exact rfl; (try dsimp only [List.set_cons_zero, List.set_cons_succ, frOf_f, frOf_t, List.cons_append, List.nil_append]))
  | ((with_reducible apply pst_if); exact rfl)
  | ((with_reducible apply pst_mut); exact rfl; (simp; done); decide)
  | with_reducible apply pst_end
  | with_reducible apply st_asg
  | with_reducible apply st_if
  | with_reducible apply st_ret
  | with_reducible apply st_drop
  | with_reducible apply st_skip
  | with_reducible apply st_retN
  | with_reducible apply exa_nil
  | with_reducible apply exa_cons
  | with_reducible apply exa_f1
  | with_reducible apply exa_perm
  | with_reducible apply exa_app
  | ((with_reducible apply ex_var_sh); exact rfl)
  | ((with_reducible apply ex_var_al); exact rfl; decide)
  | with_reducible apply ex_fc0 | with_reducible apply ex_fc1 | with_reducible apply ex_fc2 | with_reducible apply ex_fc3 | with_reducible apply ex_fc4 | with_reducible apply ex_fc5 | with_reducible apply ex_fc6 | with_reducible apply ex_fc7 | with_reducible apply ex_fc8 | with_reducible apply ex_fc9 | with_reducible apply ex_fc10 | with_reducible apply ex_fc11 | with_reducible apply ex_fc12 | with_reducible apply ex_fc14 | with_reducible apply ex_fc16 | with_reducible apply ex_fc18 | with_reducible apply ex_fc20 | with_reducible apply ex_fc21 | with_reducible apply ex_fc26 | with_reducible apply ex_fc30 | with_reducible apply ex_fc40 | with_reducible apply ex_fc41 | with_reducible apply ex_fc50 | with_reducible apply ex_fc60 | with_reducible apply ex_fc61 | with_reducible apply ex_fc80 | with_reducible apply ex_fc100 | with_reducible apply ex_fc300 | with_reducible apply ex_fc400
  | with_reducible apply ex_fc
  | with_reducible apply ex_op2
  | with_reducible apply ex_opA
  | with_reducible apply ex_op1
  | with_reducible apply ex_tup
  | with_reducible apply ex_lst
  | with_reducible apply ex_fdctT
  | with_reducible apply ex_fdctK
  | ((with_reducible apply exg_putQ); exact rfl; decide)
  | ((with_reducible apply op2_it); exact rfl; exact rfl; with_reducible exact nin_Td)
  | ((with_reducible apply opA_it); exact rfl; with_reducible exact len_Td)
  | with_reducible apply ex_call
  | with_reducible apply ex_lc
  | with_reducible apply ex_rep
  | ((with_reducible apply repQ_2); exact rfl)
  | ((with_reducible apply repQ_3); exact rfl)
  | ((with_reducible apply repAQ_P); exact rfl; decide; exact rfl; omega; omega)
  | ((with_reducible apply repQ_N); exact rfl; omega)
  | ((with_reducible apply nrm); (try simp only [filt_true, map_Ns, map_Ps, map_Ps', List.map_id_fun', List.map_id']))
  | ((with_reducible apply ex_meth); exact rfl; decide)
  | ((with_reducible apply methQ); exact rfl; exact rfl; exact rfl; decide; (first | ((with_reducible apply gAppend_N); (first | omega | (simp only [List.length_set, List.length_append, List.length_map, List.length_range, List.length_replicate, List.length_cons, List.length_nil, Ns_len, Ps_len]; omega) | (simp; omega))) | ((with_reducible apply gAppend_d); (first | omega | (simp only [List.length_set, List.length_append, List.length_map, List.length_range, List.length_replicate, List.length_cons, List.length_nil, Ns_len, Ps_len]; omega) | (simp; omega))) | with_reducible assumption); (try dsimp only [List.set_cons_zero, List.set_cons_succ, frOf_f, frOf_t, List.cons_append, List.nil_append]))
  | ((with_reducible apply exg_subQ); exact rfl; decide)
  | ((with_reducible apply subQ_N); exact rfl; exact rfl; decide; (first | omega | (simp only [List.length_set, List.length_append, List.length_map, List.length_range, List.length_replicate]; omega) | (simp; omega)); (try dsimp only [List.set_cons_zero, List.set_cons_succ, frOf_f, frOf_t, List.cons_append, List.nil_append]))
  | with_reducible apply ex_slice
  | with_reducible apply ex_chain
  | with_reducible apply ex_lrg1
  | with_reducible apply ex_lrg2
  | with_reducible apply ex_and
  | with_reducible apply ex_or
  | with_reducible apply ex_not
  | with_reducible apply ex_if
  | with_reducible apply ext_bool
  | with_reducible apply ext_not
  | with_reducible apply ext_and
  | with_reducible apply ext_andI
  | with_reducible apply ext_orI
  | with_reducible apply ex_andJ
  | with_reducible apply ex_repA
  | with_reducible apply ext_or
  | with_reducible apply ext_true
  | ((with_reducible apply setQ); exact rfl; exact rfl; exact rfl; (try dsimp only [List.set_cons_zero, List.set_cons_succ, frOf_f, frOf_t, List.cons_append, List.nil_append]))
  | ((with_reducible apply seqQ); exact rfl; exact rfl; (try dsimp only [List.set_cons_zero, List.set_cons_succ, frOf_f, frOf_t, List.cons_append, List.nil_append]))
  | ((with_reducible apply asgQ); exact rfl; exact rfl)
  | with_reducible apply boolQ
  | ((with_reducible apply op2_it); exact rfl; exact rfl; first | with_reducible exact gAdd_N | ((with_reducible apply gSub_N) <;> omega) | ((with_reducible apply gSub_N); (apply_assumption -symm -exfalso (transparency := .reducible) only [*] <;> first | with_reducible assumption | omega)) | ((with_reducible apply gMul_N) <;> omega) | ((with_reducible apply gFdiv_N) <;> omega) | ((with_reducible apply gMod_N) <;> omega) | with_reducible exact gLt_N | with_reducible exact gLe_N | with_reducible exact gGt_N | with_reducible exact gGe_N | with_reducible exact gEq_N | with_reducible exact gNe_N | ((with_reducible apply gIx_T) <;> omega) | ((with_reducible apply gIx_L) <;> omega) | ((with_reducible apply gIx_T); (apply_assumption -symm -exfalso (transparency := .reducible) only [*] <;> first | with_reducible assumption | omega)) | ((with_reducible apply gIx_L); (apply_assumption -symm -exfalso (transparency := .reducible) only [*] <;> first | with_reducible assumption | omega)) | with_reducible exact gIx_pr0 | with_reducible exact gIx_p0 | with_reducible exact gIx_p1 | with_reducible exact gIx_pr1 | with_reducible exact gIx_l0 | with_reducible exact gIx_l1 | with_reducible exact gEq_T | with_reducible exact gNe_T | with_reducible exact gEq_L | with_reducible exact gNe_L | with_reducible exact gNe_Lnil | with_reducible exact gIs_non | with_reducible exact gNis_non | with_reducible exact gNis_B | with_reducible exact gIs_B | with_reducible exact gEq_str | with_reducible exact gEq_non | with_reducible exact gNe_str | with_reducible exact gAdd_I | with_reducible exact gSub_I | with_reducible exact gEq_I | with_reducible exact gNe_I | with_reducible exact gLt_I | with_reducible exact gLe_I | with_reducible exact gGt_I | with_reducible exact gGe_I | with_reducible exact gEq_B | with_reducible exact gNe_B | with_reducible assumption)
  | ((with_reducible apply op2_it); exact rfl; exact rfl; (refine Sq.ix (by with_reducible assumption) ?_); first | omega | with_reducible assumption)
  | ((with_reducible apply op2_it); exact rfl; exact rfl; with_reducible exact gIx_last)
  | ((with_reducible apply op2_it); exact rfl; exact rfl; with_reducible exact gIx_lastd)
  | ((with_reducible apply op2_it); exact rfl; exact rfl; with_reducible exact gIx_last2)
  | ((with_reducible apply op2_it); exact rfl; exact rfl; (with_reducible apply gIx_Lz); first | with_reducible assumption | (simp; done) | (apply_assumption -symm -exfalso (transparency := .reducible) only [*] <;> first | with_reducible assumption | omega))
  | ((with_reducible apply op2_catTN); exact rfl; exact rfl; (simp; omega))
  | ((with_reducible apply op2_catLN); exact rfl; exact rfl; (simp; omega))
  | ((with_reducible apply op2_nl); exact rfl; exact rfl; (first | ((with_reducible apply gAdd_L) <;> (first | omega | (simp; done) | (simp; omega))) | with_reducible assumption); (try dsimp only [List.cons_append, List.nil_append]))
  | ((with_reducible apply op1_it); exact rfl; first | with_reducible exact gNeg_N | ((with_reducible apply gIsi_x); first | exact rfl | with_reducible assumption) | ((with_reducible apply gIsi2_x); first | exact rfl | with_reducible assumption))
  | ((with_reducible apply opA_it); exact rfl; first | with_reducible exact gLen_T | with_reducible exact gLen_L | with_reducible exact gLen_l | with_reducible exact gLen_t | with_reducible exact gTuple_T | with_reducible exact gMax_N | with_reducible exact gMin_N | with_reducible exact gInt_B | with_reducible exact gAll_c | with_reducible exact gAll_m | with_reducible exact gAny_m | with_reducible assumption)
  | ((with_reducible apply opA_it); exact rfl; exact Sq.len (by with_reducible assumption))
  | ((with_reducible apply opA_nl); exact rfl; exact Sq.lst (by with_reducible assumption))
  | ((with_reducible apply opA_tupSq); exact rfl; with_reducible assumption)
  | ((with_reducible apply opA_nl); exact rfl; first | with_reducible exact gList_L | with_reducible exact gList_T | with_reducible exact gList_pr)
  | ((with_reducible apply opA_nt); exact rfl; first | with_reducible exact gTuple_L)
  | ((with_reducible apply callQ_sh); exact rfl; with_reducible assumption; exact rfl; (try dsimp only [List.set_cons_zero, List.set_cons_succ, frOf_f, frOf_t, List.cons_append, List.nil_append]))
  | ((with_reducible apply callQ_fr); exact rfl; with_reducible assumption; exact rfl; (try dsimp only [List.set_cons_zero, List.set_cons_succ, frOf_f, frOf_t, List.cons_append, List.nil_append]))
  | ((with_reducible apply callQ_sh); exact rfl; (apply_assumption -symm -exfalso (transparency := .reducible) only [*] <;> first | with_reducible assumption | omega); exact rfl; (try dsimp only [List.set_cons_zero, List.set_cons_succ, frOf_f, frOf_t, List.cons_append, List.nil_append]))
  | ((with_reducible apply callQ_fr); exact rfl; (apply_assumption -symm -exfalso (transparency := .reducible) only [*] <;> first | with_reducible assumption | omega); exact rfl; (try dsimp only [List.set_cons_zero, List.set_cons_succ, frOf_f, frOf_t, List.cons_append, List.nil_append]))
  | ((with_reducible apply chQ); exact rfl; exact rfl; first | with_reducible exact gLt_N | with_reducible exact gLe_N | with_reducible exact gGt_N | with_reducible exact gGe_N | with_reducible exact gEq_N | with_reducible exact gNe_N)
  | ((with_reducible apply retQ); exact rfl; exact rfl)
  | ((with_reducible apply sqQ_Sq); exact rfl; with_reducible assumption; exact rfl; (try dsimp only [List.set_cons_zero, List.set_cons_succ, frOf_f, frOf_t, List.cons_append, List.nil_append]))
  | ((with_reducible apply sqQ_t); exact rfl; exact rfl; (try dsimp only [List.set_cons_zero, List.set_cons_succ, frOf_f, frOf_t, List.cons_append, List.nil_append]))
  | ((with_reducible apply sqQ_l); exact rfl; exact rfl; (try dsimp only [List.set_cons_zero, List.set_cons_succ, frOf_f, frOf_t, List.cons_append, List.nil_append]))
  | ((with_reducible apply datQ); exact rfl)
  | with_reducible apply st_for
  | with_reducible apply ex_callB'
  | ((with_reducible apply callB); exact rfl; exact rfl; decide; exact rfl; exact rfl)
  | ((with_reducible apply callB_strewn); exact rfl; exact rfl; exact rfl; decide; exact rfl)
  | ((with_reducible apply callB_atom); exact rfl; exact rfl; decide; exact rfl)
  | ((with_reducible apply sl_Tlo); exact rfl)
  | ((with_reducible apply sl_Thi); exact rfl)
  | ((with_reducible apply sl_Llo); exact rfl)
  | ((with_reducible apply sl_Lhi); exact rfl)
  | ((with_reducible apply sl_Plo); exact rfl)
  | ((with_reducible apply sl_llo); exact rfl)
  | ((with_reducible apply sl_lhi); exact rfl)
  | ((with_reducible apply lcQ); exact rfl; (first | exact enN _ | exact rfl); (first | omega | (simp; omega) | (simp; done)); (intro x hx; (try simp only [List.mem_range] at hx)))
  | ((with_reducible apply tstQ); exact rfl)
  | exact eltQ rfl rfl rfl
  | ((with_reducible apply backQ); exact rfl)
  | with_reducible apply exi_seq
  | with_reducible apply exi_enum
  | with_reducible apply exi_rng1
  | with_reducible apply exi_rng2
  | ((with_reducible apply rg1); omega)
  | ((with_reducible apply rg2); omega; omega)
  | with_reducible apply exo_none
  | with_reducible apply exo_some
  | ((with_reducible apply intQ); exact rfl)
  | ((with_reducible apply lr1N); exact rfl; omega)
  | ((with_reducible apply lr2N); exact rfl; exact rfl; omega; omega)
  | ((with_reducible apply exg_name); (try dsimp only [wipeE, List.set_cons_zero, List.set_cons_succ, frOf_f, frOf_t, List.cons_append, List.nil_append]))
  | with_reducible apply exg_pr
  | ((with_reducible apply exg_tupT); exact rfl)
  | ((with_reducible apply exg_tupL); exact rfl)
  | ((with_reducible apply exgs_nil); try dsimp only [List.set_cons_zero, List.set_cons_succ, frOf_f, frOf_t, List.cons_append, List.nil_append])
  | with_reducible apply exgs_cons
  | ((with_reducible apply two_t); exact rfl)
  | ((with_reducible apply two_f); exact rfl)
  | ((with_reducible apply two_t); (simp only [decide_eq_true_eq, decide_eq_false_iff_not, Bool.not_eq_true', Bool.not_eq_false', Bool.and_eq_true, Bool.or_eq_true, Bool.and_eq_false_iff, Bool.or_eq_false_iff, eq_self, and_self, not_true_eq_false, not_false_eq_true] <;> omega))
  | ((with_reducible apply two_f); (simp only [decide_eq_true_eq, decide_eq_false_iff_not, Bool.not_eq_true', Bool.not_eq_false', Bool.and_eq_true, Bool.or_eq_true, Bool.and_eq_false_iff, Bool.or_eq_false_iff, eq_self, and_self, not_true_eq_false, not_false_eq_true] <;> omega))
  | ((with_reducible apply two_d) <;> intro _)
  | ((with_reducible apply two_n) <;> intro _)
  | ((with_reducible apply two_g) <;> (intro h; (try simp only [Bool.and_eq_true, Bool.or_eq_true, Bool.and_eq_false_iff, Bool.or_eq_false_iff, decide_eq_true_eq, decide_eq_false_iff_not, Bool.not_eq_true', Bool.not_eq_false'] at h)))
  | ((with_reducible apply imp); (intro h; (try simp only [decide_eq_true_eq, decide_eq_false_iff_not, Bool.not_eq_true', Bool.not_eq_false'] at h)))
  | ((with_reducible apply impF); (intro h; (try simp only [decide_eq_true_eq, decide_eq_false_iff_not, Bool.not_eq_true', Bool.not_eq_false'] at h)))
  | with_reducible apply samQ
  | with_reducible apply eqQ
  | with_reducible exact ⟨rfl, rfl⟩
  | with_reducible exact rfl)
def F_law_take : Nat → FS
  | 0 => fun _ => none
  | m + 1 => toF 2 4 (some 0) (fseq (fifS (fbool (fop2 gGt (fop2 gIx (fvar 0) (fc (.int 0))) (fc (.int 0)))) (fseq (fset [2] (f1 (fop2 gMod (fop2 gIx (fvar 0) (fc (.int 0))) (fvar 1))))
    (fseq (fasg (bsub 0 (fc (.int 0))) (fop2 gFdiv (fop2 gIx (fvar 0) (fc (.int 0))) (fvar 1)))
    (fret (fvar 2)))) fskip)
    (fseq (fifS (fbool (fop2 gGt (fvar 1) (fop2 gPow (fc (.int 10)) (fc (.int 7))))) (fret (fop2 gMod (fop2 gAdd (fcall (some 0) (F_law_take m) (fcons (fvar 0) (fcons (fop2 gPow (fc (.int 10)) (fc (.int 7))) fnil))) (fop2 gMul (fop2 gPow (fc (.int 10)) (fc (.int 7))) (fcall (some 0) (F_law_take m) (fcons (fvar 0) (fcons (fop2 gAdd (fop2 gFdiv (fop2 gSub (fvar 1) (fc (.int 1))) (fop2 gPow (fc (.int 10)) (fc (.int 7)))) (fc (.int 1))) fnil))))) (fvar 1))) fskip)
    (fseq (fasg (bsub 0 (fc (.int 2))) (fop2 gAdd (fop2 gIx (fvar 0) (fc (.int 2))) (fc (.int 1))))
    (fseq (fset [3] (f1 (fop2 gMod (fop2 gPow (fop2 gAdd (fop2 gIx (fvar 0) (fc (.int 1))) (fop2 gMul (fc (.int 48271)) (fop2 gIx (fvar 0) (fc (.int 2))))) (fc (.int 5))) (fc (.int 2147483647)))))
    (fret (fop2 gMod (fop2 gFdiv (fop2 gMod (fop2 gAdd (fop2 gMul (fvar 3) (fop2 gAdd (fop2 gMod (fvar 3) (fc (.int 30011))) (fc (.int 7)))) (fop2 gMul (fop2 gIx (fvar 0) (fc (.int 2))) (fc (.int 7919)))) (fc (.int 2147483629))) (fc (.int 64))) (fvar 1)))))))
def F_law_pick : FS := toF 2 2 (some 0) (fret (fop2 gIx (fvar 1) (fcall (some 0) (F_law_take 3) (fcons (fvar 0) (fcons (fopA gLen (fcons (fvar 1) fnil)) fnil)))))
def F_law_strewn : FS := toF 2 5 (some 0) (fseq (fset [2, 3] (fcons (fopA gList (fcons (fvar 1) fnil)) (fcons (flst fnil) fnil)))
    (fseq (ffor (firng1 (fcons (fopA gLen (fcons (fvar 2) fnil)) fnil)) (bname 4) (fdrop (fmeth 3 gAppend (fcons (fmeth 2 gPop (fcons (fcall (some 0) (F_law_take 3) (fcons (fvar 0) (fcons (fopA gLen (fcons (fvar 2) fnil)) fnil))) fnil)) fnil))))
    (fret (fvar 3))))
def F_law_same : Nat → FS
  | 0 => fun _ => none
  | m + 1 => toF 2 4 none (fseq (fifS (fbool (fop1 (gIsi2 "list" "tuple") (fvar 1))) (fseq (fifS (forT (fbool (fop2 gNe (fop1 (gIsi "list") (fvar 0)) (fop1 (gIsi "list") (fvar 1)))) (fbool (fop2 gNe (fop1 (gIsi "tuple") (fvar 0)) (fop1 (gIsi "tuple") (fvar 1))))) (fret (fc (.bool false))) fskip)
    (fret (fand (fop2 gEq (fopA gLen (fcons (fvar 0) fnil)) (fopA gLen (fcons (fvar 1) fnil))) (fopA gAll (fcons (flc [2, 3] (fizip (fcons (fvar 0) (fcons (fvar 1) fnil))) (btup 2 (bcons (bname 2) (bcons (bname 3) bnil))) ftrue (fcall none (F_law_same m) (fcons (fvar 2) (fcons (fvar 3) fnil)))) fnil))))) fskip)
    (fseq (fifS (forT (fbool (fop2 gIs (fvar 1) (fc .none))) (fbool (fop1 (gIsi "str") (fvar 1)))) (fret (fand (fop2 gEq (fvar 0) (fvar 1)) (fop2 gEq (fop1 (gIsi "str") (fvar 0)) (fop1 (gIsi "str") (fvar 1))))) fskip)
    (fret (fand (fop1 (gIsi "int") (fvar 0)) (fand (fop2 gEq (fop1 (gIsi "bool") (fvar 0)) (fop1 (gIsi "bool") (fvar 1))) (fop2 gEq (fvar 0) (fvar 1)))))))
def F_law_box : FS := toF 2 3 none (fseq (fset [2] (f1 (fif (fbool (fop2 gLt (fvar 1) (fopA gLen (fcons (fvar 0) fnil)))) (fop2 gIx (fvar 0) (fvar 1)) (fc (.int 0)))))
    (fret (flst (fcons (fop2 gMul (fopA gAbs (fcons (fvar 2) fnil)) (fopA gInt (fcons (fop2 gGe (fopA gAbs (fcons (fvar 2) fnil)) (fop2 gPow (fc (.int 10)) (fc (.int 18)))) fnil))) (fcons (fop2 gAdd (fop2 gAdd (fop2 gMod (fvar 2) (fc (.int 2147483629))) (fop2 gMul (fc (.int 7919)) (fvar 1))) (fc (.int 98))) (fcons (fc (.int 0)) fnil))))))
theorem take2_spec {m n : Nat} {bx : List D} {s : Int} (hb : BoxOk n bx) (hn : n < 2 ^ 40) (h1 : 1 ≤ s) (h2 : s ≤ 10 ^ 7) :
    ∃ (r : Nat) (bx' : List D), F_law_take (m + 1) [.list bx, .int s] = some ⟨false, .int (r : Int), bx'⟩ ∧ (r : Int) < s ∧ BoxOk (n + 1) bx' := by
  obtain ⟨a, b, c, rfl, ha, hb0, hb1, hc0, hc1⟩ := hb
  suffices h : ∃ (r : Int) (bx' : List D), F_law_take (m + 1) [.list [.int a, .int b, .int c], .int s] = some ⟨false, .int r, bx'⟩ ∧ 0 ≤ r ∧ r < s ∧ BoxOk (n + 1) bx' by
    obtain ⟨r, bx', e, h3, h4, h5⟩ := h
    refine ⟨r.toNat, bx', ?_, by omega, h5⟩
    rw [e, Int.toNat_of_nonneg h3]
  have hs : 0 < s := by omega
  unfold F_law_take
  by_cases h : 0 < a
  · refine ⟨a % s, [.int (a / s), .int b, .int c], ?_, ?_, ?_, ?_⟩
    · have hd : CDiv a s := ⟨by omega, by omega⟩
      simp [toF, en0, enA, fbool, fvar, dat, gIx, atI, ixN, gGt, gIb, h, datA, relA, rel, storeA, gMod, bsub, bsub1, gFdiv, hd, retO, retD, bxOf, hs]
    · exact Int.emod_nonneg _ (by omega)
    · exact Int.emod_lt_of_pos _ (by omega)
    · exact ⟨_, _, _, rfl, Int.ediv_nonneg ha (by omega), hb0, hb1, hc0, by omega⟩
  · have ha0 : a = 0 := by omega
    subst ha0
    have hp : gPow (.int 10) (.int 7) = some (.it (.int 10000000)) := gPow10 7 (by omega) (by omega)
    have hs7 : ¬ (10000000 < s) := by omega
    have hm1 : CMul 48271 (c + 1) ∨ CMulW 48271 (c + 1) := .inl (.inl ⟨by omega, by omega⟩)
    have hp2 : CPow (b + 48271 * (c + 1)) 5 := ⟨by omega, by omega, by omega⟩
    generalize hw : (b + 48271 * (c + 1)) ^ (5 : Int).toNat % 2147483647 = w
    have w0 : 0 ≤ w := by rw [← hw]; exact Int.emod_nonneg _ (by decide)
    have w1 : w < 2147483647 := by rw [← hw]; exact Int.emod_lt_of_pos _ (by decide)
    have hm2 : CMul w (w % 30011 + 7) ∨ CMulW w (w % 30011 + 7) := .inl (.inl ⟨by omega, by omega⟩)
    have hm3 : CMul (c + 1) 7919 ∨ CMulW (c + 1) 7919 := .inl (.inr ⟨by omega, by omega⟩)
    have hd : ∀ i : Int, CDiv i 64 := fun i => ⟨by omega, by omega⟩
    refine ⟨(w * (w % 30011 + 7) + (c + 1) * 7919) % 2147483629 / 64 % s, [.int 0, .int b, .int (c + 1)], ?_, ?_, ?_, ?_⟩
    · have hw' : (b + 48271 * (c + 1)) ^ 5 % 2147483647 = w := hw
      have hq : gPow (.int (b + 48271 * (c + 1))) (.int 5) = some (.it (.int ((b + 48271 * (c + 1)) ^ 5))) := by simp [gPow, hp2]
      simp [toF, en0, enA, fbool, fvar, dat, gIx, atI, ixN, gGt, gIb, datA, relA, rel, storeA, gMod, bsub, bsub1, gFdiv, hd, retO, retD, bxOf, hs, hp, hs7, gMul, hm1, hm2, hm3, gAdd, hq, hw']
    · exact Int.emod_nonneg _ (by omega)
    · exact Int.emod_lt_of_pos _ hs
    · exact ⟨_, _, _, rfl, by omega, hb0, hb1, by omega, by omega⟩
theorem take2_w {m k s : Nat} {bx : List D} {Q : FR → Prop} (hb : BoxOk k bx) (hk : k < 2 ^ 40) (h1 : 1 ≤ s) (h2 : s ≤ 10 ^ 7) (q : ∀ (r : Nat) (bx' : List D), r < s → BoxOk (k + 1) bx' → Q ⟨false, N r, bx'⟩) : Cl (F_law_take (m + 1)) [.list bx, N s] Q := by
  obtain ⟨r, bx', e, hr, hb'⟩ := take2_spec (m := m) (s := (s : Int)) hb hk (by omega) (by omega)
  exact ⟨_, e, q r bx' (by omega) hb'⟩
theorem box2_spec {cs : List Int} {k : Nat} (hl : k ≤ 63) :
    ∃ bx : List D, F_law_box [.list (Is cs), .int (k : Int)] = some ⟨true, .list bx, []⟩ ∧ BoxOk 0 bx := by
  obtain ⟨c, first⟩ : ∃ c : Int, fset [2] (f1 (fif (fbool (fop2 gLt (fvar 1) (fopA gLen (fcons (fvar 0) fnil)))) (fop2 gIx (fvar 0) (fvar 1)) (fc (.int 0)))) [some (.sh, .list (Is cs)), some (.sh, .int (k : Int)), none] = some (.nx [some (.sh, .list (Is cs)), some (.sh, .int (k : Int)), some (.sh, .int c)]) := by
    by_cases hk : k < cs.length
    · have ea : atI (Is cs) (k : Int) = some (.int cs[k]) := by rw [Sh.atI_nat, Is_get, List.getElem?_eq_getElem hk]; rfl
      have hk' : (k : Int) < (cs.length : Nat) := by omega
      exact ⟨cs[k], by simp [fbool, fvar, dat, datA, gIb, gLen, hk', gIx, ea, relA, rel, storeA]⟩
    · have hk' : ¬ (k : Int) < (cs.length : Nat) := by omega
      exact ⟨0, by simp [fbool, fvar, dat, datA, gIb, gLen, hk', gIx, relA, rel, storeA]⟩
  have hp : gPow (.int 10) (.int 18) = some (.it (.int 1000000000000000000)) := gPow10 18 (by omega) (by omega)
  generalize hA : (if c < 0 then -c else c) = A
  have hA0 : 0 ≤ A := by rw [← hA]; split <;> omega
  generalize hB : (if (1000000000000000000 : Int) ≤ A then (1 : Int) else 0) = B
  have hB0 : 0 ≤ B ∧ B ≤ 1 := by rw [← hB]; split <;> omega
  have m1 : CMul A B ∨ CMulW A B := .inl (.inr ⟨by omega, by omega⟩)
  have m2 : CMul 7919 (k : Int) ∨ CMulW 7919 (k : Int) := .inl (.inr ⟨by omega, by omega⟩)
  have h2 := Int.emod_nonneg c (show (2147483629 : Int) ≠ 0 by omega)
  have h3 := Int.emod_lt_of_pos c (show (0 : Int) < 2147483629 by omega)
  refine ⟨[.int (A * B), .int (c % 2147483629 + 7919 * (k : Int) + 98), .int 0], ?_, _, _, _, rfl, Int.mul_nonneg hA0 hB0.1, by omega, by omega, by omega, by omega⟩
  have e0 : en0 none 3 [.list (Is cs), .int (k : Int)] = [some (.sh, .list (Is cs)), some (.sh, .int (k : Int)), none] := rfl
  have qa : fopA gAbs (fcons (fvar 2) fnil) [some (.sh, .list (Is cs)), some (.sh, .int (k : Int)), some (.sh, .int c)] = some (.sh (.int A), [some (.sh, .list (Is cs)), some (.sh, .int (k : Int)), some (.sh, .int c)]) := by
    simp [fvar, dat, datA, gAbs, hA]
  have qb : fopA gInt (fcons (fop2 gGe (fopA gAbs (fcons (fvar 2) fnil)) (fop2 gPow (fc (.int 10)) (fc (.int 18)))) fnil) [some (.sh, .list (Is cs)), some (.sh, .int (k : Int)), some (.sh, .int c)] = some (.sh (.int B), [some (.sh, .list (Is cs)), some (.sh, .int (k : Int)), some (.sh, .int c)]) := by
    rw [← hB]
    generalize fopA gAbs (fcons (fvar 2) fnil) = G at qa ⊢
    simp [qa, dat, datA, gIb, hp, gInt]
  have qc : fop2 gAdd (fop2 gAdd (fop2 gMod (fvar 2) (fc (.int 2147483629))) (fop2 gMul (fc (.int 7919)) (fvar 1))) (fc (.int 98)) [some (.sh, .list (Is cs)), some (.sh, .int (k : Int)), some (.sh, .int c)] = some (.sh (.int (c % 2147483629 + 7919 * (k : Int) + 98)), [some (.sh, .list (Is cs)), some (.sh, .int (k : Int)), some (.sh, .int c)]) := by
    simp [fvar, dat, gMod, gMul, m2, gAdd]
  unfold F_law_box
  generalize fop2 gAdd (fop2 gAdd (fop2 gMod (fvar 2) (fc (.int 2147483629))) (fop2 gMul (fc (.int 7919)) (fvar 1))) (fc (.int 98)) = G3 at qc ⊢
  generalize fopA gInt (fcons (fop2 gGe (fopA gAbs (fcons (fvar 2) fnil)) (fop2 gPow (fc (.int 10)) (fc (.int 18)))) fnil) = G2 at qb ⊢
  generalize fopA gAbs (fcons (fvar 2) fnil) = G1 at qa ⊢
  refine toF_of (fseq_nx (ρ1 := [some (.sh, .list (Is cs)), some (.sh, .int (k : Int)), some (.sh, .int c)]) ?_ (fret_of (r := .fr (.list [.int (A * B), .int (c % 2147483629 + 7919 * (k : Int) + 98), .int 0])) (ρ1 := [some (.sh, .list (Is cs)), some (.sh, .int (k : Int)), some (.sh, .int c)]) ?_)) rfl
  · rw [e0]
    exact first
  · generalize c % 2147483629 + 7919 * (k : Int) + 98 = w at *
    simp [qa, qb, qc, dat, datA, gMul, m1, relA, rel]
theorem Is_len (cs : List Int) : (Is cs).length = cs.length := by simp [Is]
theorem ex_callF {F : FS} {f : Fe} {ρ : En} {Q : RV → En → Prop} (k : Ex f ρ fun r ρ1 => ∃ es, r = .fr (.list es) ∧ es.all atom = true ∧ ∃ fr, F [.list es] = some fr ∧ atom fr.d = true ∧ fr.bx.all atom = true ∧ fr.fr = false ∧ Q (.sh fr.d) ρ1) : Ex (fcallF F f) ρ Q := by
  obtain ⟨r, ρ1, e1, es, rfl, h1, fr, h2, h3, h4, h5, k⟩ := k
  refine ⟨.sh fr.d, ρ1, ?_, k⟩
  unfold fcallF
  rw [e1, Option.bind_some]
  simp only [h1, h2, h3, h4, h5, if_true, Option.bind_some, Bool.and_self, Bool.not_false]
/-- the law's own loop: one source for each of the first numbers, and one more -/
def F_lawI (R : FS) : FS := toF 1 2 none (fret (fopA gAll (fcons (flc [1] (firng1 (fcons (fop2 gAdd (fc (.int 1)) (fopA gMin (fcons (fc (.int 3)) (fcons (fopA gLen (fcons (fvar 0) fnil)) fnil)))) fnil)) (bname 1) ftrue (fcallF R (fcall none F_law_box (fcons (fvar 0) (fcons (fvar 1) fnil))))) fnil)))
theorem lawI_ok {R : FS} {b : Nat} (hR : PartOk b R) (hb : b < 2 ^ 30) : DL.LawOk (F_lawI R) := fun ns hn => by
  have hl := Is_len ns
  have gmin : gMin [N 3, N (Is ns).length] = some (.it (N (min 3 (Is ns).length))) := by
    show some (OutV.it (.int (min ((3 : Nat) : Int) ((Is ns).length : Int)))) = _
    congr 3
    omega
  have H : Cl (F_lawI R) [.list (Is ns)] fun r => r = ⟨false, .bool true, []⟩ := by
    unfold F_lawI
    repeat' (first | ((fail_if_success (with_reducible apply lcQ)); infer_instance) | fail)
    refine lcQ (l := List.range (1 + min 3 (Is ns).length)) (enc := N) (g := fun _ => .bool true) (p := fun _ => true) rfl rfl (by simp; omega) (fun x hx => ?_) ?_
    · have hx := List.mem_range.mp hx
      obtain ⟨bx, e3, hbx⟩ := box2_spec (cs := ns) (k := x) (by omega)
      obtain ⟨bx', e4, hbx'⟩ := hR 0 bx hbx (by omega)
      repeat' (first | infer_instance | fail)
      refine ex_callF ?_
      repeat' (first | infer_instance | fail)
      refine ⟨bx, rfl, hbx.atoms, _, e4, rfl, hbx'.atoms, rfl, ?_⟩
      exact eltQ rfl rfl rfl
    · repeat' (first | infer_instance | fail)
  obtain ⟨r, e, rfl⟩ := H
  exact ⟨[], e⟩
end Sv
set_option Elab.async false
set_option linter.all false
set_option maxRecDepth 100000
set_option maxHeartbeats 2000000
namespace Sh
open PySem PySem.Spec PyProof.Rows L2 DL
def PutQ (j : Nat) (d : D) (ρ : En) (r : RV) (K : En → Prop) : Prop := ∃ k es es' fl, fl ≠ Fl.sh ∧ dat ρ r = some k ∧ ρ[j]? = some (some (fl, .dict es)) ∧ putKey es d k = some es' ∧ K (ρ.set j (some (fl, .dict es')))
theorem putQ {j : Nat} {d k : D} {ρ : En} {r : RV} {K : En → Prop} {es es' : List (D × D)} {fl : Fl} (e1 : dat ρ r = some k) (e2 : ρ[j]? = some (some (fl, .dict es))) (hfl : fl ≠ .sh) (e3 : putKey es d k = some es') (q : K (ρ.set j (some (fl, .dict es')))) : PutQ j d ρ r K := ⟨k, es, es', fl, hfl, e1, e2, e3, q⟩
theorem exg_putQ {f : Fe} {ρ : En} {d d0 : D} {j : Nat} {fl : Fl} {QG : En → Prop} (e0 : ρ[j]? = some (some (fl, d0))) (hfl : fl ≠ .sh) (k : Ex f ρ fun r ρ1 => PutQ j d ρ1 r QG) : ExG (bdput j f) d ρ QG := by
  obtain ⟨r, ρ1, h1, kk, es, es', fl', h2, h3, h4, h5, h6⟩ := k
  refine ⟨_, ?_, h6⟩
  have e : bdput j f d ρ = bdput1 j f d ρ := by
    unfold bdput
    rw [e0]
    cases fl with
    | sh => exact absurd rfl hfl
    | ow => rfl
    | bx => rfl
  rw [e]
  unfold bdput1
  simp only [h1, Option.bind_some, h3, h4, if_neg h2, h5, Option.map_some]
end Sh
set_option Elab.async false
set_option linter.all false
set_option maxRecDepth 100000
set_option maxHeartbeats 4000000
namespace Sv
open PySem PySem.Spec PyProof.Rows L2 DL Sh
def F_law_read : FS := toF 2 6 none (fseq (fset [2, 3] (fcons (fopA gLen (fcons (fvar 1) fnil)) (fcons (flst fnil) fnil)))
    (fseq (ffor (firng1 (fcons (fvar 2) fnil)) (bname 4) (fseq (fset [5] (f1 (fop2 gIx (fvar 0) (fop2 gAdd (fvar 2) (fvar 4)))))
    (fseq (whileD (fbool (fop2 gLt (fvar 5) (fvar 2))) (fset [5] (f1 (fop2 gIx (fvar 0) (fop2 gIx (fvar 1) (fvar 5))))) 1000000)
    (fdrop (fmeth 3 gAppend (fcons (fop2 gSub (fvar 5) (fvar 2)) fnil))))))
    (fret (fopA gTuple (fcons (fvar 3) fnil)))))
end Sv
set_option Elab.async false
set_option linter.all false
set_option maxRecDepth 100000
set_option maxHeartbeats 4000000
namespace Sv
open PySem PySem.Spec PyProof.Rows L2 DL
open Sh hiding F_law_take F_law_strewn F_law_same F_law_box F_law_read
structure RecAt {α : Type} (r : Nat → α) (b m : Nat) : Prop where
  lt : b < m
  eq : r b = r m
  ne : ∀ i j, i < j → j < m → r i ≠ r j
/-- a word done k times -/
def rptP (p : List Nat) (ps : List (Nat × Nat)) : Nat → List Nat
  | 0 => p
  | k + 1 => ledP (rptP p ps k) ps
theorem rptP_joined {n : Nat} {p : List Nat} {ps : List (Nat × Nat)} (J : Joined n p) (h : CallsOk n ps) : ∀ k, Joined n (rptP p ps k)
  | 0 => J
  | k + 1 => ledP_joined (rptP_joined J h k) h
theorem rptP_pw {n : Nat} {p : List Nat} {ps : List (Nat × Nat)} (J : Joined n p) (h : CallsOk n ps) (h0 : 0 < n) (hn : n ≤ 1000) : ∀ k, rptP p ps k = resL n (pw (shW_joined h) h0 hn k) p
  | 0 => by
    rw [pw_zero]
    have := res_word (ps := []) hn J (fun _ z => nomatch z)
    exact this.symm
  | k + 1 => by
    have e := res_comp' (pw_J (shW_joined h) h0 hn k) (shW_joined h) J h0 hn (pw_succ (shW_joined h) h0 hn k)
    rw [e, ← rptP_pw J h h0 hn k, res_word hn (rptP_joined J h k) h]
    rfl
def F_pairings_met : FS := toF 2 5 none (fseq (fset [2, 3, 4] (fcons (fcall none F_sheet_of (fcons (fopA gLen (fcons (fvar 0) fnil)) (fcons (fvar 1) fnil))) (fcons (fopA gTuple (fcons (fvar 0) fnil)) (fcons fdctT fnil))))
    (fseq (whileD (fbool (fop2 gDnin (fvar 3) (fvar 4))) (fseq (fasg (bdput 4 (fvar 3)) (fopA gDlen (fcons (fvar 4) fnil)))
    (fset [3] (f1 (fcall none F_result_of (fcons (fvar 2) (fcons (fvar 3) fnil)))))) 1000000)
    (fret (ftup (fcons (fvar 4) (fcons (fop2 gDget (fvar 4) (fvar 3)) fnil))))))
def F_settles : FS := toF 2 4 none (fseq (fasg (btup 2 (bcons (bname 2) (bcons (bname 3) bnil))) (fcall none F_pairings_met (fcons (fvar 0) (fcons (fvar 1) fnil))))
    (fret (ftup (fcons (fvar 3) (fcons (fop2 gSub (fopA gDlen (fcons (fvar 2) fnil)) (fvar 3)) fnil)))))
end Sv
set_option Elab.async false
set_option linter.all false
set_option maxRecDepth 100000
set_option maxHeartbeats 4000000
namespace Sh
open PySem PySem.Spec PyProof.Rows L2 DL
end Sh
namespace Sv
open PySem PySem.Spec PyProof.Rows L2 DL
open Sh hiding F_law_take F_law_strewn F_law_same F_law_box F_law_read
def F_first_time : FS := toF 4 8 none (fseq (fset [4] (f1 (fop2 gIx (fcall none F_pairings_met (fcons (fvar 0) (fcons (fvar 1) fnil))) (fc (.int 0)))))
    (fseq (fdrop (fcall none F_look_person (fcons (fopA gLen (fcons (fvar 0) fnil)) (fcons (fvar 2) fnil))))
    (fseq (fdrop (fcall none F_look_person (fcons (fopA gLen (fcons (fvar 0) fnil)) (fcons (fvar 3) fnil))))
    (fseq (fset [5] (f1 (flcI 4 [6, 7] (btup 2 (bcons (bname 6) (bcons (bname 7) bnil))) (fbool (fop2 gEq (fop2 gIx (fvar 6) (fvar 2)) (fvar 3))) (fvar 7))))
    (fret (fif (fbool (fop2 gGt (fopA gLen (fcons (fvar 5) fnil)) (fc (.int 0)))) (fop2 gIx (fvar 5) (fc (.int 0))) (fc .none)))))))
end Sv
set_option Elab.async false
set_option linter.all false
set_option maxRecDepth 100000
set_option maxHeartbeats 4000000
namespace Sv
open PySem PySem.Spec PyProof.Rows L2 DL
open Sh hiding F_law_take F_law_strewn F_law_same F_law_box F_law_read
/-- equal exactly behind b, at a distance that q divides -/
structure Per {α : Type} (r : Nat → α) (b q : Nat) : Prop where
  pos : 0 < q
  iff : ∀ i j, i ≤ j → (r i = r j ↔ i = j ∨ (b ≤ i ∧ q ∣ j - i))
theorem RecAt.per {α : Type} {r : Nat → α} {b m : Nat} (R : RecAt r b m) (st : ∀ i j, r i = r j → r (i + 1) = r (j + 1)) : Per r b (m - b) := by
  have hlt := R.lt
  have hq : 0 < m - b := by omega
  obtain ⟨q, hqq⟩ : ∃ q, q = m - b := ⟨_, rfl⟩
  rw [← hqq] at hq ⊢
  have p1 : ∀ k, r (b + k + q) = r (b + k) := fun k => by
    induction k with
    | zero =>
      have := R.eq
      rw [show b + 0 + q = m by omega]
      exact this.symm
    | succ k ih => exact st (b + k + q) (b + k) ih ▸ (by rw [show b + (k + 1) + q = b + k + q + 1 by omega])
  have p2 : ∀ t k, r (b + k + t * q) = r (b + k) := fun t => by
    induction t with
    | zero => intro k; simp
    | succ t ih =>
      intro k
      rw [show b + k + (t + 1) * q = b + (k + t * q) + q by rw [Nat.add_mul]; omega, p1, show b + (k + t * q) = b + k + t * q by omega, ih]
  have p3 : ∀ k, b ≤ k → r k = r (b + (k - b) % q) := fun k hk => by
    have e := Nat.mod_add_div' (k - b) q
    have := p2 ((k - b) / q) ((k - b) % q)
    rw [show b + (k - b) % q + (k - b) / q * q = k by omega] at this
    exact this
  refine ⟨hq, fun i j hij => ⟨fun e => ?_, fun z => ?_⟩⟩
  · rcases Nat.lt_or_ge i b with hi | hi
    · rcases Nat.lt_or_ge j b with hj | hj
      · rcases Nat.lt_or_ge i j with z | z
        · exact absurd e (R.ne i j z (by omega))
        · exact .inl (by omega)
      · have hm := Nat.mod_lt (j - b) hq
        rw [p3 j hj] at e
        exact absurd e (R.ne i _ (by omega) (by omega))
    · right
      refine ⟨hi, ?_⟩
      rw [p3 i hi, p3 j (by omega)] at e
      have h1 := Nat.mod_lt (i - b) hq
      have h2 := Nat.mod_lt (j - b) hq
      have : (i - b) % q = (j - b) % q := by
        rcases Nat.lt_trichotomy ((i - b) % q) ((j - b) % q) with z | z | z
        · exact absurd e (R.ne _ _ (by omega) (by omega))
        · exact z
        · exact absurd e.symm (R.ne _ _ (by omega) (by omega))
      have := Nat.dvd_of_mod_eq_zero (Nat.sub_mod_eq_zero_of_mod_eq this.symm)
      rwa [show j - b - (i - b) = j - i by omega] at this
  · rcases z with rfl | ⟨z1, t, z2⟩
    · rfl
    · have := p2 t (i - b)
      rw [show b + (i - b) + t * q = j by rw [Nat.mul_comm t q]; omega, show b + (i - b) = i by omega] at this
      exact this.symm
structure Tg (n : Nat) (t : List Nat) : Prop where
  len : t.length = n
  lt : ∀ {x}, x < n → gt t x < n
  inj : ∀ {x y}, x < n → y < n → (gt t x = gt t y ↔ x = y)
  onto : ∀ {y}, y < n → ∃ x, x < n ∧ gt t x = y
structure Ren (n : Nat) (t p p' : List Nat) : Prop where
  len : p'.length = n
  at_ : ∀ {x}, x < n → gt p' (gt t x) = gt t (gt p x)
section
variable {n : Nat} {t p p' : List Nat}
theorem Ren.uniq {p'' : List Nat} (R : Ren n t p p') (R2 : Ren n t p p'') (G : Tg n t) : p' = p'' := by
  refine gt_ext R.len R2.len fun y hy => ?_
  obtain ⟨x, hx, rfl⟩ := G.onto hy
  rw [R.at_ hx, R2.at_ hx]
end
end Sv
set_option Elab.async false
set_option linter.all false
set_option maxRecDepth 100000
set_option maxHeartbeats 1000000
namespace Sv
open Sh
section
end
section
end
end Sv
set_option Elab.async false
set_option linter.all false
set_option maxRecDepth 100000
set_option maxHeartbeats 4000000
namespace Sv
open PySem PySem.Spec PyProof.Rows L2 DL
open Sh hiding F_law_take F_law_strewn F_law_same F_law_box F_law_read
local macro_rules | `(tactic| infer_instance) => `(tactic| first
  | with_reducible apply st_seq
  | ((with_reducible apply cl_toF); (simp +decide only [en0, enA, List.length_cons, List.length_nil, List.cons_append, List.nil_append, List.replicate, ↓reduceIte, Nat.reduceAdd, Nat.reduceSub, Nat.zero_add] <;> exact rfl); exact rfl)
  | with_reducible apply st_set
  | with_reducible apply st_ph
  | with_reducible apply pst_set
  | ((with_reducible apply psetQ); (first | (simp [allFrL]; done) | (simp [allFrL]; omega) | (simp [allFrL, Ts]; omega)); exact rfl; exact rfl; (try dsimp only [List.set_cons_zero, List.set_cons_succ, frOf_f, frOf_t, List.cons_append, List.nil_append]))
  | ((with_reducible apply pst_if); exact rfl)
  | ((with_reducible apply pst_mut); exact rfl; (simp; done); decide)
  | with_reducible apply pst_end
  | with_reducible apply st_asg
  | with_reducible apply st_if
  | with_reducible apply st_ret
  | with_reducible apply st_drop
  | with_reducible apply st_skip
  | with_reducible apply st_retN
  | with_reducible apply exa_nil
  | with_reducible apply exa_cons
  | with_reducible apply exa_f1
  | with_reducible apply exa_perm
  | with_reducible apply exa_app
  | ((with_reducible apply ex_var_sh); exact rfl)
  | ((with_reducible apply ex_var_al); exact rfl; decide)
  | with_reducible apply ex_fc0 | with_reducible apply ex_fc1 | with_reducible apply ex_fc2 | with_reducible apply ex_fc3 | with_reducible apply ex_fc4 | with_reducible apply ex_fc5 | with_reducible apply ex_fc6 | with_reducible apply ex_fc7 | with_reducible apply ex_fc8 | with_reducible apply ex_fc9 | with_reducible apply ex_fc10 | with_reducible apply ex_fc11 | with_reducible apply ex_fc12 | with_reducible apply ex_fc14 | with_reducible apply ex_fc16 | with_reducible apply ex_fc18 | with_reducible apply ex_fc20 | with_reducible apply ex_fc21 | with_reducible apply ex_fc26 | with_reducible apply ex_fc30 | with_reducible apply ex_fc40 | with_reducible apply ex_fc41 | with_reducible apply ex_fc50 | with_reducible apply ex_fc60 | with_reducible apply ex_fc61 | with_reducible apply ex_fc80 | with_reducible apply ex_fc100 | with_reducible apply ex_fc300 | with_reducible apply ex_fc400
  | with_reducible apply ex_fc
  | with_reducible apply ex_op2
  | with_reducible apply ex_opA
  | with_reducible apply ex_op1
  | with_reducible apply ex_tup
  | with_reducible apply ex_lst
  | with_reducible apply ex_fdctT
  | with_reducible apply ex_fdctK
  | ((with_reducible apply exg_putQ); exact rfl; decide)
  | ((with_reducible apply op2_it); exact rfl; exact rfl; with_reducible exact nin_Td)
  | ((with_reducible apply opA_it); exact rfl; with_reducible exact len_Td)
  | with_reducible apply ex_call
  | with_reducible apply ex_lc
  | with_reducible apply ex_rep
  | ((with_reducible apply repQ_2); exact rfl)
  | ((with_reducible apply repQ_3); exact rfl)
  | ((with_reducible apply repAQ_P); exact rfl; decide; exact rfl; omega; omega)
  | ((with_reducible apply repQ_N); exact rfl; omega)
  | ((with_reducible apply nrm); (try simp only [filt_true, map_Ns, map_Ps, map_Ps', List.map_id_fun', List.map_id']))
  | ((with_reducible apply ex_meth); exact rfl; decide)
  | ((with_reducible apply methQ); exact rfl; exact rfl; exact rfl; decide; (first | ((with_reducible apply gAppend_N); (first | omega | (simp only [List.length_set, List.length_append, List.length_map, List.length_range, List.length_replicate, List.length_cons, List.length_nil, Ns_len, Ps_len]; omega) | (simp; omega))) | ((with_reducible apply gAppend_d); (first | omega | (simp only [List.length_set, List.length_append, List.length_map, List.length_range, List.length_replicate, List.length_cons, List.length_nil, Ns_len, Ps_len]; omega) | (simp; omega))) | with_reducible assumption); (try dsimp only [List.set_cons_zero, List.set_cons_succ, frOf_f, frOf_t, List.cons_append, List.nil_append]))
  | ((with_reducible apply exg_subQ); exact rfl; decide)
  | ((with_reducible apply subQ_N); exact rfl; exact rfl; decide; (first | omega | (simp only [List.length_set, List.length_append, List.length_map, List.length_range, List.length_replicate]; omega) | (simp; omega)); (try dsimp only [List.set_cons_zero, List.set_cons_succ, frOf_f, frOf_t, List.cons_append, List.nil_append]))
  | with_reducible apply ex_slice
  | with_reducible apply ex_chain
  | with_reducible apply ex_lrg1
  | with_reducible apply ex_lrg2
  | with_reducible apply ex_and
  | with_reducible apply ex_or
  | with_reducible apply ex_not
  | with_reducible apply ex_if
  | with_reducible apply ext_bool
  | with_reducible apply ext_not
  | with_reducible apply ext_and
  | with_reducible apply ext_andI
  | with_reducible apply ext_orI
  | with_reducible apply ex_andJ
  | with_reducible apply ex_repA
  | with_reducible apply ext_or
  | with_reducible apply ext_true
  | ((with_reducible apply setQ); exact rfl; exact rfl; exact rfl; (try dsimp only [List.set_cons_zero, List.set_cons_succ, frOf_f, frOf_t, List.cons_append, List.nil_append]))
  | ((with_reducible apply seqQ); exact rfl; exact rfl; (try dsimp only [List.set_cons_zero, List.set_cons_succ, frOf_f, frOf_t, List.cons_append, List.nil_append]))
  | ((with_reducible apply asgQ); exact rfl; exact rfl)
  | with_reducible apply boolQ
  | ((with_reducible apply op2_it); exact rfl; exact rfl; first | with_reducible exact gAdd_N | ((with_reducible apply gSub_N) <;> omega) | ((with_reducible apply gSub_N); (apply_assumption -symm -exfalso (transparency := .reducible) only [*] <;> first | with_reducible assumption | omega)) | ((with_reducible apply gMul_N) <;> omega) | ((with_reducible apply gFdiv_N) <;> omega) | ((with_reducible apply gMod_N) <;> omega) | with_reducible exact gLt_N | with_reducible exact gLe_N | with_reducible exact gGt_N | with_reducible exact gGe_N | with_reducible exact gEq_N | with_reducible exact gNe_N | ((with_reducible apply gIx_T) <;> omega) | ((with_reducible apply gIx_L) <;> omega) | ((with_reducible apply gIx_T); (apply_assumption -symm -exfalso (transparency := .reducible) only [*] <;> first | with_reducible assumption | omega)) | ((with_reducible apply gIx_L); (apply_assumption -symm -exfalso (transparency := .reducible) only [*] <;> first | with_reducible assumption | omega)) | with_reducible exact gIx_pr0 | with_reducible exact gIx_p0 | with_reducible exact gIx_p1 | with_reducible exact gIx_pr1 | with_reducible exact gIx_l0 | with_reducible exact gIx_l1 | with_reducible exact gEq_T | with_reducible exact gNe_T | with_reducible exact gEq_L | with_reducible exact gNe_L | with_reducible exact gNe_Lnil | with_reducible exact gIs_non | with_reducible exact gNis_non | with_reducible exact gNis_B | with_reducible exact gIs_B | with_reducible exact gEq_str | with_reducible exact gEq_non | with_reducible exact gNe_str | with_reducible exact gAdd_I | with_reducible exact gSub_I | with_reducible exact gEq_I | with_reducible exact gNe_I | with_reducible exact gLt_I | with_reducible exact gLe_I | with_reducible exact gGt_I | with_reducible exact gGe_I | with_reducible exact gEq_B | with_reducible exact gNe_B | with_reducible assumption)
  | ((with_reducible apply op2_it); exact rfl; exact rfl; (refine Sq.ix (by with_reducible assumption) ?_); first | omega | with_reducible assumption)
  | ((with_reducible apply op2_it); exact rfl; exact rfl; with_reducible exact gIx_last)
  | ((with_reducible apply op2_it); exact rfl; exact rfl; with_reducible exact gIx_lastd)
  | ((with_reducible apply op2_it); exact rfl; exact rfl; with_reducible exact gIx_last2)
  | ((with_reducible apply op2_it); exact rfl; exact rfl; (with_reducible apply gIx_Lz); first | with_reducible assumption | (simp; done) | (apply_assumption -symm -exfalso (transparency := .reducible) only [*] <;> first | with_reducible assumption | omega))
  | ((with_reducible apply op2_catTN); exact rfl; exact rfl; (simp; omega))
  | ((with_reducible apply op2_catLN); exact rfl; exact rfl; (simp; omega))
  | ((with_reducible apply op2_nl); exact rfl; exact rfl; (first | ((with_reducible apply gAdd_L) <;> (first | omega | (simp; done) | (simp; omega))) | with_reducible assumption); (try dsimp only [List.cons_append, List.nil_append]))
  | ((with_reducible apply op1_it); exact rfl; first | with_reducible exact gNeg_N | ((with_reducible apply gIsi_x); first | exact rfl | with_reducible assumption) | ((with_reducible apply gIsi2_x); first | exact rfl | with_reducible assumption))
  | ((with_reducible apply opA_it); exact rfl; first | with_reducible exact gLen_T | with_reducible exact gLen_L | with_reducible exact gLen_l | with_reducible exact gLen_t | with_reducible exact gTuple_T | with_reducible exact gMax_N | with_reducible exact gMin_N | with_reducible exact gInt_B | with_reducible exact gAll_c | with_reducible exact gAll_m | with_reducible exact gAny_m | with_reducible assumption)
  | ((with_reducible apply opA_it); exact rfl; exact Sq.len (by with_reducible assumption))
  | ((with_reducible apply opA_nl); exact rfl; exact Sq.lst (by with_reducible assumption))
  | ((with_reducible apply opA_tupSq); exact rfl; with_reducible assumption)
  | ((with_reducible apply opA_nl); exact rfl; first | with_reducible exact gList_L | with_reducible exact gList_T | with_reducible exact gList_pr)
  | ((with_reducible apply opA_nt); exact rfl; first | with_reducible exact gTuple_L)
  | ((with_reducible apply callQ_sh); exact rfl; with_reducible assumption; exact rfl; (try dsimp only [List.set_cons_zero, List.set_cons_succ, frOf_f, frOf_t, List.cons_append, List.nil_append]))
  | ((with_reducible apply callQ_fr); exact rfl; with_reducible assumption; exact rfl; (try dsimp only [List.set_cons_zero, List.set_cons_succ, frOf_f, frOf_t, List.cons_append, List.nil_append]))
  | ((with_reducible apply callQ_sh); exact rfl; (apply_assumption -symm -exfalso (transparency := .reducible) only [*] <;> first | with_reducible assumption | omega); exact rfl; (try dsimp only [List.set_cons_zero, List.set_cons_succ, frOf_f, frOf_t, List.cons_append, List.nil_append]))
  | ((with_reducible apply callQ_fr); exact rfl; (apply_assumption -symm -exfalso (transparency := .reducible) only [*] <;> first | with_reducible assumption | omega); exact rfl; (try dsimp only [List.set_cons_zero, List.set_cons_succ, frOf_f, frOf_t, List.cons_append, List.nil_append]))
  | ((with_reducible apply chQ); exact rfl; exact rfl; first | with_reducible exact gLt_N | with_reducible exact gLe_N | with_reducible exact gGt_N | with_reducible exact gGe_N | with_reducible exact gEq_N | with_reducible exact gNe_N)
  | ((with_reducible apply retQ); exact rfl; exact rfl)
  | ((with_reducible apply sqQ_Sq); exact rfl; with_reducible assumption; exact rfl; (try dsimp only [List.set_cons_zero, List.set_cons_succ, frOf_f, frOf_t, List.cons_append, List.nil_append]))
  | ((with_reducible apply sqQ_t); exact rfl; exact rfl; (try dsimp only [List.set_cons_zero, List.set_cons_succ, frOf_f, frOf_t, List.cons_append, List.nil_append]))
  | ((with_reducible apply sqQ_l); exact rfl; exact rfl; (try dsimp only [List.set_cons_zero, List.set_cons_succ, frOf_f, frOf_t, List.cons_append, List.nil_append]))
  | ((with_reducible apply datQ); exact rfl)
  | with_reducible apply st_for
  | with_reducible apply ex_callB'
  | ((with_reducible apply callB); exact rfl; exact rfl; decide; exact rfl; exact rfl)
  | ((with_reducible apply callB_strewn); exact rfl; exact rfl; exact rfl; decide; exact rfl)
  | ((with_reducible apply callB_atom); exact rfl; exact rfl; decide; exact rfl)
  | ((with_reducible apply sl_Tlo); exact rfl)
  | ((with_reducible apply sl_Thi); exact rfl)
  | ((with_reducible apply sl_Llo); exact rfl)
  | ((with_reducible apply sl_Lhi); exact rfl)
  | ((with_reducible apply sl_Plo); exact rfl)
  | ((with_reducible apply sl_llo); exact rfl)
  | ((with_reducible apply sl_lhi); exact rfl)
  | ((with_reducible apply lcQ); exact rfl; (first | exact enN _ | exact rfl); (first | omega | (simp; omega) | (simp; done)); (intro x hx; (try simp only [List.mem_range] at hx)))
  | ((with_reducible apply tstQ); exact rfl)
  | exact eltQ rfl rfl rfl
  | ((with_reducible apply backQ); exact rfl)
  | with_reducible apply exi_seq
  | with_reducible apply exi_enum
  | with_reducible apply exi_rng1
  | with_reducible apply exi_rng2
  | ((with_reducible apply rg1); omega)
  | ((with_reducible apply rg2); omega; omega)
  | with_reducible apply exo_none
  | with_reducible apply exo_some
  | ((with_reducible apply intQ); exact rfl)
  | ((with_reducible apply lr1N); exact rfl; omega)
  | ((with_reducible apply lr2N); exact rfl; exact rfl; omega; omega)
  | ((with_reducible apply exg_name); (try dsimp only [wipeE, List.set_cons_zero, List.set_cons_succ, frOf_f, frOf_t, List.cons_append, List.nil_append]))
  | with_reducible apply exg_pr
  | ((with_reducible apply exg_tupT); exact rfl)
  | ((with_reducible apply exg_tupL); exact rfl)
  | ((with_reducible apply exgs_nil); try dsimp only [List.set_cons_zero, List.set_cons_succ, frOf_f, frOf_t, List.cons_append, List.nil_append])
  | with_reducible apply exgs_cons
  | ((with_reducible apply two_t); exact rfl)
  | ((with_reducible apply two_f); exact rfl)
  | ((with_reducible apply two_t); (simp only [decide_eq_true_eq, decide_eq_false_iff_not, Bool.not_eq_true', Bool.not_eq_false', Bool.and_eq_true, Bool.or_eq_true, Bool.and_eq_false_iff, Bool.or_eq_false_iff, eq_self, and_self, not_true_eq_false, not_false_eq_true] <;> omega))
  | ((with_reducible apply two_f); (simp only [decide_eq_true_eq, decide_eq_false_iff_not, Bool.not_eq_true', Bool.not_eq_false', Bool.and_eq_true, Bool.or_eq_true, Bool.and_eq_false_iff, Bool.or_eq_false_iff, eq_self, and_self, not_true_eq_false, not_false_eq_true] <;> omega))
  | ((with_reducible apply two_d) <;> intro _)
  | ((with_reducible apply two_n) <;> intro _)
  | ((with_reducible apply two_g) <;> (intro h; (try simp only [Bool.and_eq_true, Bool.or_eq_true, Bool.and_eq_false_iff, Bool.or_eq_false_iff, decide_eq_true_eq, decide_eq_false_iff_not, Bool.not_eq_true', Bool.not_eq_false'] at h)))
  | ((with_reducible apply imp); (intro h; (try simp only [decide_eq_true_eq, decide_eq_false_iff_not, Bool.not_eq_true', Bool.not_eq_false'] at h)))
  | ((with_reducible apply impF); (intro h; (try simp only [decide_eq_true_eq, decide_eq_false_iff_not, Bool.not_eq_true', Bool.not_eq_false'] at h)))
  | with_reducible apply samQ
  | with_reducible apply eqQ
  | with_reducible exact ⟨rfl, rfl⟩
  | with_reducible exact rfl)
theorem take_wide2_w {m k s : Nat} {bx : List D} {Q : FR → Prop} (hb : BoxOk k bx) (hk : k + 2 < 2 ^ 40) (h1 : 10 ^ 7 < s) (h2 : s ≤ 10 ^ 13) (q : ∀ (r : Nat) (bx' : List D), r < s → BoxOk (k + 2) bx' → Q ⟨false, N r, bx'⟩) : Cl (F_law_take (m + 2)) [.list bx, N s] Q := by
  obtain ⟨a, b, c, e, ha, hb0, hb1, hc0, hc1⟩ := id hb
  by_cases h : 0 < a
  · refine ⟨⟨false, .int (a % (s : Int)), [.int (a / (s : Int)), .int b, .int c]⟩, ?_, ?_⟩
    · subst e
      have hd : CDiv a s ∨ CDivW a s := by
        right
        unfold CDivW
        refine ⟨by omega, ?_⟩
        have h0 : (s : Int).natAbs ≠ 0 := by omega
        have : (s : Int).natAbs.log2 < 60 := by
          rw [Nat.log2_lt h0]
          omega
        omega
      have hs : 0 < s := by omega
      unfold F_law_take
      simp [toF, en0, enA, fbool, fvar, dat, gIx, atI, ixN, gGt, gIb, h, datA, relA, rel, storeA, gMod, bsub, bsub1, gFdiv, hd, retO, retD, bxOf, hs]
    · have h3 := Int.emod_nonneg a (by omega : (s : Int) ≠ 0)
      have h4 := Int.emod_lt_of_pos a (by omega : 0 < (s : Int))
      have := q (a % (s : Int)).toNat [.int (a / (s : Int)), .int b, .int c] (by omega) ⟨_, _, _, rfl, Int.ediv_nonneg ha (by omega), hb0, hb1, hc0, by omega⟩
      rwa [show N (a % (s : Int)).toNat = .int (a % (s : Int)) by show PyData.int ((a % (s : Int)).toNat : Int) = _; rw [Int.toNat_of_nonneg h3]] at this
  · have ha0 : a = 0 := by omega
    subst ha0
    have i0 : gIx (.list bx) (N 0) = some (.it (N 0)) := by rw [e]; rfl
    have p7 : gPow (N 10) (N 7) = some (.it (N 10000000)) := gPow_N (by omega) (by omega)
    unfold F_law_take
    repeat' (first | infer_instance | fail)
    refine take2_w hb (by omega) (by omega) (by omega) fun r bx1 hr hb1 => ?_
    repeat' (first | infer_instance | fail)
    refine take2_w hb1 (by omega) (by omega) (by omega) fun r2 bx2 hr2 hb2 => ?_
    repeat' (first | infer_instance | fail)
    exact q _ _ (Nat.mod_lt _ (by omega)) hb2
def F_repeated : FS := toF 3 3 none (fret (fcall none F_result_of (fcons (fcall none F_times (fcons (fcall none F_sheet_of (fcons (fopA gLen (fcons (fvar 0) fnil)) (fcons (fvar 1) fnil))) (fcons (fvar 2) fnil))) (fcons (fvar 0) fnil))))
theorem repeated_w {n : Nat} {A B : D} {p : List Nat} {ps : List (Nat × Nat)} (hA : Sq A p) (hB : Wd B ps) (J : Joined n p) (h : CallsOk n ps) (h0 : 0 < n) (hn : n ≤ 1000) {m : Nat} (hm : m < 2 ^ 60) : F_repeated [A, B, N m] = some ⟨false, .tuple (Ns (rptP p ps m)), []⟩ := by
  have c1 := sheet_of_w hB h hn
  have hl := J.len
  have c1' : F_sheet_of [N p.length, B] = some ⟨false, .tuple (Ns (shW n ps)), []⟩ := by rw [hl]; exact c1
  have c2 := times_w (A := .tuple (Ns (shW n ps))) .t (shW_joined h) h0 hn hm
  have c3 := result_of_w (A := .tuple (Ns (pw (shW_joined h) h0 hn m))) (B := A) .t hA (pw_J (shW_joined h) h0 hn m) J hn
  rw [← rptP_pw J h h0 hn m] at c3
  refine Cl.eq ?_
  unfold F_repeated
  repeat' (first | infer_instance | fail)
end Sv
set_option Elab.async false
set_option linter.all false
set_option maxRecDepth 100000
set_option maxHeartbeats 4000000
namespace Sv
open PySem PySem.Spec PyProof.Rows L2 DL
open Sh hiding F_law_take F_law_strewn F_law_same F_law_box F_law_read
def orb (p q : List Nat) (x : Nat) : Nat → Nat
  | 0 => x
  | k + 1 => gt q (gt p (orb p q x k))
section
variable {n : Nat} {p q : List Nat}
def per (p q : List Nat) (n x : Nat) : Nat := (((List.range n).map fun k => k + 1).find? fun k => decide (orb p q x k = x)).getD 0
end
end Sv
set_option Elab.async false
set_option linter.all false
set_option maxRecDepth 100000
set_option maxHeartbeats 4000000
namespace Sv
/-- the labels that are used below n -/
def im (f : Nat → Nat) : Nat → List Nat
  | 0 => []
  | n + 1 => if f n ∈ im f n then im f n else im f n ++ [f n]
def cls (f : Nat → Nat) (n : Nat) : Nat := (im f n).length
theorem im_mem (f : Nat → Nat) (v : Nat) (n : Nat) : v ∈ im f n ↔ ∃ x, x < n ∧ f x = v := by
  induction n generalizing v with
  | zero => simp [im]
  | succ n ih =>
    unfold im
    by_cases h : f n ∈ im f n
    · rw [if_pos h, ih v]
      refine ⟨fun ⟨x, h1, h2⟩ => ⟨x, by omega, h2⟩, fun ⟨x, h1, h2⟩ => ?_⟩
      by_cases e : x = n
      · subst e
        rw [h2] at h
        exact (ih v).mp h
      · exact ⟨x, by omega, h2⟩
    · rw [if_neg h, List.mem_append, ih v]
      refine ⟨fun q => ?_, fun ⟨x, h1, h2⟩ => ?_⟩
      · rcases q with ⟨x, h1, h2⟩ | q
        · exact ⟨x, by omega, h2⟩
        · exact ⟨n, by omega, (List.mem_singleton.mp q).symm⟩
      · by_cases e : x = n
        · subst e
          exact .inr (by simp [h2])
        · exact .inl ⟨x, by omega, h2⟩
theorem im_nodup (f : Nat → Nat) : ∀ n, (im f n).Nodup
  | 0 => by simp [im]
  | n + 1 => by
    unfold im
    by_cases h : f n ∈ im f n
    · rw [if_pos h]
      exact im_nodup f n
    · rw [if_neg h]
      refine List.nodup_append.mpr ⟨im_nodup f n, by simp, fun a ha b hb e => ?_⟩
      rw [List.mem_singleton.mp hb] at e
      exact h (e ▸ ha)
/-- alike for f, so for g -/
def Rf {α β : Type} (n : Nat) (f : Nat → α) (g : Nat → β) : Prop := ∀ x y, x < n → y < n → f x = f y → g x = g y
theorem Rf.trans {α β γ : Type} {n : Nat} {f : Nat → α} {g : Nat → β} {h : Nat → γ} (a : Rf n f g) (b : Rf n g h) : Rf n f h := fun x y hx hy e => b x y hx hy (a x y hx hy e)
/-- the classes of the two ends become one -/
def mrg (f : Nat → Nat) (e : Nat × Nat) : Nat → Nat := fun x => if f x = f e.2 then f e.1 else f x
theorem mrg_rf (f : Nat → Nat) (e : Nat × Nat) (n : Nat) : Rf n f (mrg f e) := fun x y _ _ h => by
  unfold mrg
  rw [h]
theorem mrg_edge (f : Nat → Nat) (e : Nat × Nat) : mrg f e e.1 = mrg f e e.2 := by
  unfold mrg
  rw [if_pos rfl]
  by_cases h : f e.1 = f e.2
  · rw [if_pos h]
  · rw [if_neg h]
theorem mrg_least {β : Type} {f : Nat → Nat} {g : Nat → β} {e : Nat × Nat} {n : Nat} (h : Rf n f g) (h1 : e.1 < n) (h2 : e.2 < n) (he : g e.1 = g e.2) : Rf n (mrg f e) g := fun x y hx hy q => by
  unfold mrg at q
  by_cases a : f x = f e.2
  · rw [if_pos a] at q
    by_cases b : f y = f e.2
    · exact h x y hx hy (a.trans b.symm)
    · rw [if_neg b] at q
      exact (h x _ hx h2 a).trans (he.symm.trans (h _ y h1 hy q))
  · rw [if_neg a] at q
    by_cases b : f y = f e.2
    · rw [if_pos b] at q
      exact (h x _ hx h1 q).trans (he.trans (h y _ hy h2 b).symm)
    · rw [if_neg b] at q
      exact h x y hx hy q
theorem mrg_mono {f g : Nat → Nat} {e : Nat × Nat} {n : Nat} (h : Rf n f g) (h1 : e.1 < n) (h2 : e.2 < n) : Rf n (mrg f e) (mrg g e) :=
  mrg_least (h.trans (mrg_rf g e n)) h1 h2 (mrg_edge g e)
theorem perm_len : ∀ {a b : List Nat}, a.Nodup → b.Nodup → (∀ x, x ∈ a ↔ x ∈ b) → a.length = b.length := fun {a b} ha hb h => (((List.perm_ext_iff_of_nodup ha hb).mpr h)).length_eq
theorem cls_mrg {f : Nat → Nat} {e : Nat × Nat} {n : Nat} (h1 : e.1 < n) (h2 : e.2 < n) : cls (mrg f e) n + (if f e.1 = f e.2 then 0 else 1) = cls f n := by
  by_cases q : f e.1 = f e.2
  · rw [if_pos q]
    have : mrg f e = f := by
      funext x
      unfold mrg
      by_cases a : f x = f e.2
      · rw [if_pos a, a, q]
      · rw [if_neg a]
    rw [this]
    rfl
  · rw [if_neg q]
    have hb : f e.2 ∈ im f n := (im_mem f _ n).mpr ⟨_, h2, rfl⟩
    have hl : ((im f n).erase (f e.2)).length + 1 = (im f n).length := by
      rw [List.length_erase_of_mem hb]
      have : 0 < (im f n).length := List.length_pos_of_mem hb
      omega
    unfold cls
    rw [← hl, perm_len (im_nodup (mrg f e) n) ((im_nodup f n).erase _)]
    intro v
    rw [im_mem, List.Nodup.mem_erase_iff (im_nodup f n), im_mem]
    refine ⟨fun ⟨x, hx, hv⟩ => ?_, fun ⟨hne, x, hx, hv⟩ => ⟨x, hx, ?_⟩⟩
    · unfold mrg at hv
      by_cases a : f x = f e.2
      · rw [if_pos a] at hv
        exact ⟨fun c => q (hv.trans c), _, h1, hv⟩
      · rw [if_neg a] at hv
        exact ⟨fun c => a (hv.trans c), _, hx, hv⟩
    · unfold mrg
      rw [if_neg (fun c => hne (hv.symm.trans c))]
      exact hv
def mrgs (f : Nat → Nat) (es : List (Nat × Nat)) : Nat → Nat := es.foldl mrg f
def Eds (n : Nat) (es : List (Nat × Nat)) : Prop := ∀ e ∈ es, e.1 < n ∧ e.2 < n
theorem mrgs_rf {n : Nat} : ∀ (es : List (Nat × Nat)) (f : Nat → Nat), Rf n f (mrgs f es)
  | [], _ => fun _ _ _ _ h => h
  | e :: es, f => (mrg_rf f e n).trans (mrgs_rf es (mrg f e))
theorem mrgs_least {β : Type} {n : Nat} {g : Nat → β} : ∀ {es : List (Nat × Nat)} {f : Nat → Nat}, Rf n f g → Eds n es → (∀ e ∈ es, g e.1 = g e.2) → Rf n (mrgs f es) g
  | [], _, h, _, _ => h
  | e :: es, f, h, he, hg => mrgs_least (es := es) (mrg_least h (he e (.head _)).1 (he e (.head _)).2 (hg e (.head _))) (fun x hx => he x (.tail _ hx)) fun x hx => hg x (.tail _ hx)
theorem mrgs_edge {n : Nat} : ∀ {es : List (Nat × Nat)} (f : Nat → Nat), Eds n es → ∀ e ∈ es, mrgs f es e.1 = mrgs f es e.2
  | e :: es, f, he, e', h' => by
    rcases List.mem_cons.mp h' with rfl | h'
    · exact mrgs_rf (n := n) es (mrg f e') _ _ (he _ (.head _)).1 (he _ (.head _)).2 (mrg_edge f e')
    · exact mrgs_edge (es := es) (mrg f e) (fun x hx => he x (.tail _ hx)) e' h'
/-- the more is joined already, the less is joined by more edges -/
theorem drop {n : Nat} : ∀ {es : List (Nat × Nat)} {f g : Nat → Nat}, Rf n f g → Eds n es → cls g n + cls (mrgs f es) n ≤ cls f n + cls (mrgs g es) n
  | [], f, g, _, _ => by show cls g n + cls f n ≤ cls f n + cls g n; omega
  | e :: es, f, g, h, he => by
    obtain ⟨h1, h2⟩ := he e (.head _)
    have ih := drop (es := es) (mrg_mono h h1 h2) fun x hx => he x (.tail _ hx)
    have a := cls_mrg (f := f) h1 h2
    have b := cls_mrg (f := g) h1 h2
    show cls g n + cls (mrgs (mrg f e) es) n ≤ cls f n + cls (mrgs (mrg g e) es) n
    by_cases q : f e.1 = f e.2
    · rw [if_pos q] at a
      rw [if_pos (h _ _ h1 h2 q)] at b
      omega
    · rw [if_neg q] at a
      by_cases q2 : g e.1 = g e.2
      · rw [if_pos q2] at b; omega
      · rw [if_neg q2] at b; omega
end Sv
set_option Elab.async false
set_option linter.all false
set_option maxRecDepth 100000
set_option maxHeartbeats 4000000
namespace Lp
open Sh Sv
theorem sub_len : ∀ {a b : List α} [DecidableEq α], a.Nodup → (∀ x ∈ a, x ∈ b) → a.length ≤ b.length
  | [], b, _, _, _ => Nat.zero_le _
  | x :: a, b, _, ha, h => by
    have hx := h x (.head _)
    have ih := sub_len (a := a) (b := b.erase x) (List.nodup_cons.mp ha).2 fun y hy => (List.mem_erase_of_ne fun e => (List.nodup_cons.mp ha).1 (by rw [← e]; exact hy)).mpr (h y (.tail _ hy))
    have := List.length_erase_of_mem hx
    have := List.length_pos_of_mem hx
    simp only [List.length_cons]
    omega
/-- the edges of the ends that are not left out -/
def edx (n : Nat) (s : List Nat) (D : Nat → Bool) : List (Nat × Nat) := ((List.range (2 * n)).filter fun z => !D z).map fun z => (z % n, gt s z % n)
def lbx (n : Nat) (s : List Nat) (D : Nat → Bool) : Nat → Nat := mrgs id (edx n s D)
def lb (n : Nat) (s : List Nat) : Nat → Nat := lbx n s fun _ => false
theorem edx_ok {n : Nat} {s : List Nat} {D : Nat → Bool} : Eds n (edx n s D) ∨ n = 0 := by
  by_cases h : n = 0
  · exact .inr h
  · exact .inl fun e he => by
      obtain ⟨z, _, rfl⟩ := List.mem_map.mp he
      exact ⟨Nat.mod_lt _ (by omega), Nat.mod_lt _ (by omega)⟩
section
variable {n : Nat} {s : List Nat} {D : Nat → Bool}
theorem lbx_edge {z : Nat} (hz : z < 2 * n) (hD : D z = false) : lbx n s D (z % n) = lbx n s D (gt s z % n) := by
  rcases edx_ok (n := n) (s := s) (D := D) with h | h
  · exact mrgs_edge (n := n) id h (z % n, gt s z % n) (List.mem_map.mpr ⟨z, List.mem_filter.mpr ⟨List.mem_range.mpr hz, by simp [hD]⟩, rfl⟩)
  · omega
theorem lbx_least {β : Type} {g : Nat → β} (h : ∀ z, z < 2 * n → D z = false → g (z % n) = g (gt s z % n)) : Rf n (lbx n s D) g := by
  rcases edx_ok (n := n) (s := s) (D := D) with h0 | h0
  · refine mrgs_least (fun x y _ _ e => by rw [show x = y from e]) h0 fun e he => ?_
    obtain ⟨z, hz, rfl⟩ := List.mem_map.mp he
    obtain ⟨h1, h2⟩ := List.mem_filter.mp hz
    exact h z (List.mem_range.mp h1) (by simpa using h2)
  · intro x y hx; omega
theorem lb_edge {z : Nat} (hz : z < 2 * n) : lb n s (z % n) = lb n s (gt s z % n) := lbx_edge hz rfl
theorem lb_up {x : Nat} (hx : x < n) : lb n s x = lb n s (gt s x % n) := by
  have := lb_edge (s := s) (show x < 2 * n by omega)
  rwa [Nat.mod_eq_of_lt hx] at this
theorem lb_dn {x : Nat} (hx : x < n) : lb n s x = lb n s (gt s (n + x) % n) := by
  have := lb_edge (s := s) (show n + x < 2 * n by omega)
  rwa [Nat.add_mod_left, Nat.mod_eq_of_lt hx] at this
/-- a closed set holds whole classes -/
theorem lb_set {C : Nat → Prop} (h : ∀ z, z < 2 * n → (C (z % n) ↔ C (gt s z % n))) {x y : Nat} (hx : x < n) (hy : y < n) (e : lb n s x = lb n s y) (c : C x) : C y :=
  (lbx_least (D := fun _ => false) (g := C) (fun z hz _ => propext (h z hz)) x y hx hy e) ▸ c
end
structure Sw (n : Nat) (s s' : List Nat) (p q r w : Nat) : Prop where
  J : Joined (2 * n) s
  J' : Joined (2 * n) s'
  lp : p < 2 * n
  lr : r < 2 * n
  pq : gt s p = q
  rw : gt s r = w
  pr : gt s' p = r
  qw : gt s' q = w
  ag : ∀ z, z < 2 * n → z ≠ p → z ≠ q → z ≠ r → z ≠ w → gt s' z = gt s z
section
variable {n p q r w : Nat} {s s' : List Nat}
def d4 (p q r w : Nat) : Nat → Bool := fun z => z == p || z == q || z == r || z == w
end
end Lp
set_option Elab.async false
set_option linter.all false
set_option maxRecDepth 100000
set_option maxHeartbeats 4000000
namespace Lp
open Sh Sv
/-- the class of a person -/
def clsOf (n : Nat) (s : List Nat) (x : Nat) : List Nat := (List.range n).filter fun y => decide (lb n s y = lb n s x)
/-- the classes of the first m people, in order -/
def lps (n : Nat) (s : List Nat) : Nat → List (List Nat)
  | 0 => []
  | m + 1 => if clsOf n s m ∈ lps n s m then lps n s m else lps n s m ++ [clsOf n s m]
section
variable {n : Nat} {s s' : List Nat}
theorem clsOf_mem {x y : Nat} : y ∈ clsOf n s x ↔ y < n ∧ lb n s y = lb n s x := by
  unfold clsOf
  rw [List.mem_filter, List.mem_range, decide_eq_true_eq]
theorem clsOf_self {x : Nat} (hx : x < n) : x ∈ clsOf n s x := clsOf_mem.mpr ⟨hx, rfl⟩
theorem clsOf_nodup {x : Nat} : (clsOf n s x).Nodup := List.nodup_range.filter _
theorem clsOf_eq {x y : Nat} (h : lb n s x = lb n s y) : clsOf n s x = clsOf n s y := by
  unfold clsOf
  rw [h]
theorem lps_mem {C : List Nat} : ∀ m, C ∈ lps n s m ↔ ∃ x, x < m ∧ C = clsOf n s x
  | 0 => by simp [lps]
  | m + 1 => by
    unfold lps
    by_cases h : clsOf n s m ∈ lps n s m
    · rw [if_pos h, lps_mem m]
      refine ⟨fun ⟨x, a, b⟩ => ⟨x, by omega, b⟩, fun ⟨x, a, b⟩ => ?_⟩
      by_cases e : x = m
      · rw [e] at b
        rw [b]
        exact (lps_mem m).mp h
      · exact ⟨x, by omega, b⟩
    · rw [if_neg h, List.mem_append, lps_mem m, List.mem_singleton]
      refine ⟨fun q => ?_, fun ⟨x, a, b⟩ => ?_⟩
      · rcases q with ⟨x, a, b⟩ | q
        · exact ⟨x, by omega, b⟩
        · exact ⟨m, by omega, q⟩
      · by_cases e : x = m
        · rw [e] at b; exact .inr b
        · exact .inl ⟨x, by omega, b⟩
end
section
end
end Lp
set_option Elab.async false
set_option linter.all false
set_option maxRecDepth 100000
set_option maxHeartbeats 4000000
namespace Lp
open Sh Sv
section
variable {n : Nat} {s : List Nat}
/-- a person whose own ends are joined is a loop alone -/
theorem lone {y z : Nat} (J : Joined (2 * n) s) (hy : y < n) (h : gt s y = n + y) (hz : z < n) (e : lb n s z = lb n s y) : z = y := by
  have h2 : gt s (n + y) = y := by have := J.gg (show y < 2 * n by omega); rwa [h] at this
  refine lb_set (s := s) (C := fun x => x = y) (fun e he => ?_) hy hz e.symm rfl
  have key : ∀ e, e < 2 * n → (e % n = y ↔ e = y ∨ e = n + y) := fun e he => by
    by_cases c : e < n
    · rw [Nat.mod_eq_of_lt c]; omega
    · rw [show e = e - n + n by omega, Nat.add_mod_right, Nat.mod_eq_of_lt (by omega)]; omega
  rw [key e he, key _ (J.lt he)]
  constructor
  · rintro (rfl | rfl)
    · exact .inr h
    · exact .inl h2
  · rintro (c | c)
    · right
      rw [← J.gg he, c, h]
    · left
      rw [← J.gg he, c, h2]
end
end Lp
set_option Elab.async false
set_option linter.all false
set_option maxRecDepth 100000
set_option maxHeartbeats 4000000
namespace Sh
open PySem PySem.Spec PyProof.Rows L2 DL
/-- a dict of naturals, all with True -/
def Kd (l : List Nat) : List (D × D) := l.map fun x => (N x, .bool true)
theorem hd_Kd (l : List Nat) : hdOf (Kd l) = false := by cases l <;> rfl
theorem isKK_N (x y : Nat) : isKK (.inl (x : Int)) (N y) = decide (y = x) := by
  show decide ((some (.inl (y : Int)) : Option Key) = some (.inl (x : Int))) = _
  by_cases h : y = x
  · subst h; simp
  · rw [decide_eq_false h]
    refine decide_eq_false fun z => h ?_
    have := Sum.inl.inj (Option.some.inj z)
    exact Int.ofNat.inj this
theorem getD_Kd (x : Nat) : ∀ l : List Nat, (getD (Kd l) (isKK (.inl (x : Int)))).isSome = decide (x ∈ l)
  | [] => rfl
  | y :: l => by
    show (if isKK (.inl (x : Int)) (N y) = true then some (.bool true) else getD (Kd l) (isKK (.inl (x : Int)))).isSome = _
    rw [isKK_N]
    by_cases h : y = x
    · subst h; simp
    · have hx : x ≠ y := fun z => h z.symm
      rw [decide_eq_false h]
      simp only [Bool.false_eq_true, if_false, getD_Kd x l, List.mem_cons, hx, false_or]
theorem nin_Kd {l : List Nat} {x : Nat} : gDnin (N x) (.dict (Kd l)) = some (.it (.bool (!decide (x ∈ l)))) := by
  show (lookD (Kd l) (N x)).map (fun r => OutV.it (.bool (!r.isSome))) = _
  have e : lookD (Kd l) (N x) = some (getD (Kd l) (isKK (.inl (x : Int)))) := by
    show (if hdOf (Kd l) = true then none else some (getD (Kd l) (isKK (.inl (x : Int))))) = _
    rw [hd_Kd]; rfl
  rw [e, Option.map_some, getD_Kd]
theorem putD_Kd {x : Nat} : ∀ {l : List Nat}, x ∉ l → putD (Kd l) (isKK (.inl (x : Int))) (N x) (.bool true) = Kd (l ++ [x])
  | [], _ => rfl
  | y :: l, h => by
    simp only [List.mem_cons, not_or] at h
    show (if isKK (.inl (x : Int)) (N y) = true then _ else (N y, PyData.bool true) :: putD (Kd l) (isKK (.inl (x : Int))) (N x) (.bool true)) = _
    rw [isKK_N, if_neg (by simpa using fun z => h.1 z.symm), putD_Kd h.2]
    rfl
end Sh
namespace Sv
open PySem PySem.Spec PyProof.Rows L2 DL
open Sh hiding F_law_take F_law_strewn F_law_same F_law_box F_law_read
end Sv
set_option Elab.async false
set_option linter.all false
set_option maxRecDepth 100000
set_option maxHeartbeats 4000000
namespace DX
open PySem PySem.Spec PyProof.Rows L2
open Builtin Builtin.ObjectAttr
/-- what is wanted of the built-in class below -/
structure Bas (B newId initId : String) (bm : List Value) : Prop where
  fx : ExcBaseFacts B newId initId bm
  sf : StoreFacts B bm "object.__setattr__" "object"
  ty : typeOf (.type B) = pure (.type "type")
  st : Manifest.isStub B = false
  hi : PySem.W.handedIn (.builtin initId) = true
section
end
/-- what the written part says of an own class of errors -/
structure Own (K : PySem.W.Frag) (C : Addr) (newId : String) (bm : List Value) : Prop where
  cls : ∃ nm q N bs tl sn sub ab col dd k0 k1 k2 k3 k5, K.lookup C = some (excClassObj nm q C N bs tl true sn sub ab col dd k0 k1 k2 k3 k5 newId) ∧ W.excTail bm tl = true
  sa : PySem.W.findIn K (.ref C) "__setattr__" = some (some (.builtin "object.__setattr__"))
  exC : PySem.W.subIn K (.ref C) (.type "BaseException") = some true
  tyC : PySem.W.typeIn K (.ref C) = some (.type "type")
  kC : PySem.W.keepIn K (.ref C) = true
section
end
section
end
section
end
/-- what __init__ of an own class does: v is stored as f; or nothing is -/
def spI (C : Addr) (f : Str) : Sp := fun vs H Q _ => ∃ a v, vs = [.ref a, v] ∧ H a = some (exo a C none) ∧ ∀ d, H d = none → d ≠ a → Q .non (upd (upd H d (exd d [(f, v)])) a (exo a C (some d)))
def spI0 (C : Addr) : Sp := fun vs H Q _ => ∃ a, vs = [.ref a] ∧ H a = some (exo a C none) ∧ Q .non H
section
end
end DX
set_option Elab.async false
set_option linter.all false
set_option maxRecDepth 100000
set_option maxHeartbeats 1000000
namespace DL
open PySem PySem.Spec PyProof.Rows L2
/-- an error over data: the class's name, its field -/
structure Xn where
  nm : Str
  fld : Option (Str × D)
abbrev GX := List D → Option Xn
section
variable {X : Cx} {e : Expr} {es : List Expr} {st : Stmt} {sts : List Stmt} {σ : SS} {H : Hp}
theorem WE.mono {Q Q' : VK} (h : WE X e σ H Q) (q : ∀ v H', Q v H' → Q' v H') : WE X e σ H Q' := fun pins s I => wpAny_mono (h pins s I) (fun u s' ⟨v, H', I', r, z⟩ => ⟨v, H', I', r, q v H' z⟩) fun _ _ x => x
end
section
end
section
end
end DL
set_option Elab.async false
set_option linter.all false
set_option maxRecDepth 100000
set_option maxHeartbeats 1000000
namespace DL
open PySem PySem.Spec PyProof.Rows L2
structure PostX (cl : Str → Addr) (S : Addr → Prop) (H : Hp) (n : Xn) (cls : Value) (d : Option Addr) (H' : Hp) : Prop where
  keep : ∀ b o, H b = some o → H' b = some o
  cls : cls = .ref (cl n.nm)
  fld : match n.fld with
    | none => d = none
    | some (f, x) => ∃ dd v, d = some dd ∧ H' dd = some (.xd [(f, v)]) ∧ (S dd ∨ H dd = none) ∧ Rep (fun b => S b ∨ H b = none) H' v x
def spX (cl : Str → Addr) (G : GX) : Sp := fun vs H _ E => ∃ (S : Addr → Prop) (ds : List D) (n : Xn), G ds = some n ∧ ArgsOk none S H vs ds ∧ ∀ cls d H', PostX cl S H n cls d H' → E cls d H'
section
end
section
end
section
end
section
end
section
end
end DL
set_option Elab.async false
set_option linter.all false
set_option maxRecDepth 100000
set_option maxHeartbeats 2000000
namespace PySem.W
open PySem PySem.Spec PySem.Calls PyProof.Rows
section
end
end PySem.W
namespace DX
open PySem PySem.Spec PyProof.Rows L2
section
end
section
end
end DX
set_option Elab.async false
set_option linter.all false
set_option maxRecDepth 100000
set_option maxHeartbeats 1000000
namespace DL
open PySem PySem.Spec PyProof.Rows L2
section
end
section
end
/-- what K says of an error class -/
structure ClsX (K : PySem.W.Frag) (C : Addr) : Prop where
  ex : L2.ExcC K C
  xf : L2.XfC K C
section
end
section
end
section
end
end DL
set_option Elab.async false
set_option linter.all false
set_option maxRecDepth 100000
set_option maxHeartbeats 1000000
namespace DL
open PySem PySem.Spec PyProof.Rows L2
section
variable (P : Program) (w : World) (K : PySem.W.Frag) (mg : Str → Option Value) (base : Heap) (cl : Str → Addr)
structure Kl1 (x f : Str) : Prop where
  mk1 : ∃ (B newId initId : String) (bm : List Value) (fI : Addr) (fd : FuncData) (ps : List Str), DX.Bas B newId initId bm ∧ DX.Own K (cl x) newId bm ∧ PySem.W.findIn K (.ref (cl x)) "__init__" = some (some (.ref fI)) ∧ PySem.W.typeIn K (.ref fI) = some (.type "function") ∧
    FnOk P w K mg base CX0 1 fI fd ps (DX.spI (cl x) f) ∧ Binds K fd ps []
  mg : mg x = some (.ref (cl x))
  cx : ClsX K (cl x)
  no : PySem.W.findIn K (.ref (cl x)) f = some none
structure Kl0 (x : Str) : Prop where
  mk1 : ∃ (B newId initId : String) (bm : List Value) (fI : Addr) (fd : FuncData) (ps : List Str), DX.Bas B newId initId bm ∧ DX.Own K (cl x) newId bm ∧ PySem.W.findIn K (.ref (cl x)) "__init__" = some (some (.ref fI)) ∧ PySem.W.typeIn K (.ref fI) = some (.type "function") ∧
    FnOk P w K mg base CX0 1 fI fd ps (DX.spI0 (cl x)) ∧ Binds K fd ps []
  mg : mg x = some (.ref (cl x))
  cx : ClsX K (cl x)
end
section
end
theorem all_cons {p : Str → Prop} {a : Str} {l : List Str} (h : p a) (t : ∀ y ∈ l, p y) : ∀ y ∈ a :: l, p y := fun y hy => by
  rcases List.mem_cons.mp hy with rfl | z
  · exact h
  · exact t y z
end DL
set_option Elab.async false
set_option linter.all false
set_option maxRecDepth 100000
set_option maxHeartbeats 1000000
namespace DL
open PySem PySem.Spec PyProof.Rows L2
section
end
end DL
set_option Elab.async false
set_option linter.all false
set_option maxRecDepth 100000
set_option maxHeartbeats 1000000
namespace DL
open PySem PySem.Spec PyProof.Rows L2
section
end
/-- names of defs that may raise -/
inductive XFs (cl : Str → Addr) (X : Cx) : List Expr → List V → List GX → Prop
  | nil : XFs cl X [] [] []
  | cons {e : Expr} {f : Addr} {fd : FuncData} {ps : List Str} {lv : Nat} {G : GX} {es : List Expr} {vs : List V} {Gs : List GX} (h : PE X e (tC (.ref f))) (FO : FnG X.prog X.w X.K X.mg X.base (L2.CX X.prog X.w) lv f fd ps (spX cl G)) (hr : RoomG lv X.A)
    (hk : PySem.W.keepIn X.K (.ref f) = true) (hb : Binds X.K fd ps []) (t : XFs cl X es vs Gs) (hs : starEach (e :: es) X.env = (false, eval e X.env) :: starEach es X.env := by rfl) : XFs cl X (e :: es) (.ref f :: vs) (G :: Gs)
theorem XFs.len {cl : Str → Addr} {X : Cx} {es : List Expr} {vs : List V} {Gs : List GX} (h : XFs cl X es vs Gs) : vs.length = Gs.length := by
  induction h with
  | nil => rfl
  | cons h _ _ _ _ _ hs ih => simp [ih]
end DL
set_option Elab.async false
set_option linter.all false
set_option maxRecDepth 100000
set_option maxHeartbeats 2000000
namespace DL
open PySem PySem.Spec PyProof.Rows L2
section
end
section
end
end DL
set_option Elab.async false
set_option linter.all false
set_option maxRecDepth 100000
set_option maxHeartbeats 4000000
namespace Sh
open PySem PySem.Spec PyProof.Rows L2 DL
section
end
section
end
end Sh
set_option Elab.async false
set_option linter.all false
set_option maxRecDepth 100000
set_option maxHeartbeats 4000000
namespace Sh
open PySem PySem.Spec PyProof.Rows L2 DL
section
end
end Sh
set_option Elab.async false
set_option linter.all false
set_option maxRecDepth 100000
set_option maxHeartbeats 4000000
namespace Lp
open PySem PySem.Spec PyProof.Rows L2 DL
open Sh
open Sv hiding F_law_take F_law_strewn F_law_same F_law_box F_law_read F_law_pick
local macro_rules | `(tactic| infer_instance) => `(tactic| first
  | with_reducible apply st_seq
  | ((with_reducible apply cl_toF); (simp +decide only [en0, enA, List.length_cons, List.length_nil, List.cons_append, List.nil_append, List.replicate, ↓reduceIte, Nat.reduceAdd, Nat.reduceSub, Nat.zero_add] <;> exact rfl); exact rfl)
  | with_reducible apply st_set
  | with_reducible apply st_ph
  | with_reducible apply pst_set
  | ((with_reducible apply psetQ); (first | (simp [allFrL]; done) | (simp [allFrL]; omega) | (simp [allFrL, Ts]; omega)); exact rfl; exact rfl; (try dsimp only [List.set_cons_zero, List.set_cons_succ, frOf_f, frOf_t, List.cons_append, List.nil_append]))
  | ((with_reducible apply pst_if); exact rfl)
  | ((with_reducible apply pst_mut); exact rfl; (simp; done); decide)
  | with_reducible apply pst_end
  | with_reducible apply st_asg
  | with_reducible apply st_if
  | with_reducible apply st_ret
  | with_reducible apply st_drop
  | with_reducible apply st_skip
  | with_reducible apply st_retN
  | with_reducible apply exa_nil
  | with_reducible apply exa_cons
  | with_reducible apply exa_f1
  | with_reducible apply exa_perm
  | with_reducible apply exa_app
  | ((with_reducible apply ex_var_sh); exact rfl)
  | ((with_reducible apply ex_var_al); exact rfl; decide)
  | with_reducible apply ex_fc0 | with_reducible apply ex_fc1 | with_reducible apply ex_fc2 | with_reducible apply ex_fc3 | with_reducible apply ex_fc4 | with_reducible apply ex_fc5 | with_reducible apply ex_fc6 | with_reducible apply ex_fc7 | with_reducible apply ex_fc8 | with_reducible apply ex_fc9 | with_reducible apply ex_fc10 | with_reducible apply ex_fc11 | with_reducible apply ex_fc12 | with_reducible apply ex_fc14 | with_reducible apply ex_fc16 | with_reducible apply ex_fc18 | with_reducible apply ex_fc20 | with_reducible apply ex_fc21 | with_reducible apply ex_fc26 | with_reducible apply ex_fc30 | with_reducible apply ex_fc40 | with_reducible apply ex_fc41 | with_reducible apply ex_fc50 | with_reducible apply ex_fc60 | with_reducible apply ex_fc61 | with_reducible apply ex_fc80 | with_reducible apply ex_fc100 | with_reducible apply ex_fc300 | with_reducible apply ex_fc400
  | with_reducible apply ex_fc
  | with_reducible apply ex_op2
  | with_reducible apply ex_opA
  | with_reducible apply ex_op1
  | with_reducible apply ex_tup
  | with_reducible apply ex_lst
  | with_reducible apply ex_fdctT
  | with_reducible apply ex_fdctK
  | ((with_reducible apply exg_putQ); exact rfl; decide)
  | ((with_reducible apply op2_it); exact rfl; exact rfl; with_reducible exact nin_Td)
  | ((with_reducible apply opA_it); exact rfl; with_reducible exact len_Td)
  | with_reducible apply ex_call
  | with_reducible apply ex_lc
  | with_reducible apply ex_rep
  | ((with_reducible apply repQ_2); exact rfl)
  | ((with_reducible apply repQ_3); exact rfl)
  | ((with_reducible apply repAQ_P); exact rfl; decide; exact rfl; omega; omega)
  | ((with_reducible apply repQ_N); exact rfl; omega)
  | ((with_reducible apply nrm); (try simp only [filt_true, map_Ns, map_Ps, map_Ps', List.map_id_fun', List.map_id']))
  | ((with_reducible apply ex_meth); exact rfl; decide)
  | ((with_reducible apply methQ); exact rfl; exact rfl; exact rfl; decide; (first | ((with_reducible apply gAppend_N); (first | omega | (simp only [List.length_set, List.length_append, List.length_map, List.length_range, List.length_replicate, List.length_cons, List.length_nil, Ns_len, Ps_len]; omega) | (simp; omega))) | ((with_reducible apply gAppend_d); (first | omega | (simp only [List.length_set, List.length_append, List.length_map, List.length_range, List.length_replicate, List.length_cons, List.length_nil, Ns_len, Ps_len]; omega) | (simp; omega))) | with_reducible assumption); (try dsimp only [List.set_cons_zero, List.set_cons_succ, frOf_f, frOf_t, List.cons_append, List.nil_append]))
  | ((with_reducible apply exg_subQ); exact rfl; decide)
  | ((with_reducible apply subQ_N); exact rfl; exact rfl; decide; (first | omega | (simp only [List.length_set, List.length_append, List.length_map, List.length_range, List.length_replicate]; omega) | (simp; omega)); (try dsimp only [List.set_cons_zero, List.set_cons_succ, frOf_f, frOf_t, List.cons_append, List.nil_append]))
  | with_reducible apply ex_slice
  | with_reducible apply ex_chain
  | with_reducible apply ex_lrg1
  | with_reducible apply ex_lrg2
  | with_reducible apply ex_and
  | with_reducible apply ex_or
  | with_reducible apply ex_not
  | with_reducible apply ex_if
  | with_reducible apply ext_bool
  | with_reducible apply ext_not
  | with_reducible apply ext_and
  | with_reducible apply ext_andI
  | with_reducible apply ext_orI
  | with_reducible apply ex_andJ
  | with_reducible apply ex_repA
  | with_reducible apply ext_or
  | with_reducible apply ext_true
  | ((with_reducible apply setQ); exact rfl; exact rfl; exact rfl; (try dsimp only [List.set_cons_zero, List.set_cons_succ, frOf_f, frOf_t, List.cons_append, List.nil_append]))
  | ((with_reducible apply seqQ); exact rfl; exact rfl; (try dsimp only [List.set_cons_zero, List.set_cons_succ, frOf_f, frOf_t, List.cons_append, List.nil_append]))
  | ((with_reducible apply asgQ); exact rfl; exact rfl)
  | with_reducible apply boolQ
  | ((with_reducible apply op2_it); exact rfl; exact rfl; first | with_reducible exact gAdd_N | ((with_reducible apply gSub_N) <;> omega) | ((with_reducible apply gSub_N); (apply_assumption -symm -exfalso (transparency := .reducible) only [*] <;> first | with_reducible assumption | omega)) | ((with_reducible apply gMul_N) <;> omega) | ((with_reducible apply gFdiv_N) <;> omega) | ((with_reducible apply gMod_N) <;> omega) | with_reducible exact gLt_N | with_reducible exact gLe_N | with_reducible exact gGt_N | with_reducible exact gGe_N | with_reducible exact gEq_N | with_reducible exact gNe_N | ((with_reducible apply gIx_T) <;> omega) | ((with_reducible apply gIx_L) <;> omega) | ((with_reducible apply gIx_T); (apply_assumption -symm -exfalso (transparency := .reducible) only [*] <;> first | with_reducible assumption | omega)) | ((with_reducible apply gIx_L); (apply_assumption -symm -exfalso (transparency := .reducible) only [*] <;> first | with_reducible assumption | omega)) | with_reducible exact gIx_pr0 | with_reducible exact gIx_p0 | with_reducible exact gIx_p1 | with_reducible exact gIx_pr1 | with_reducible exact gIx_l0 | with_reducible exact gIx_l1 | with_reducible exact gEq_T | with_reducible exact gNe_T | with_reducible exact gEq_L | with_reducible exact gNe_L | with_reducible exact gNe_Lnil | with_reducible exact gIs_non | with_reducible exact gNis_non | with_reducible exact gNis_B | with_reducible exact gIs_B | with_reducible exact gEq_str | with_reducible exact gEq_non | with_reducible exact gNe_str | with_reducible exact gAdd_I | with_reducible exact gSub_I | with_reducible exact gEq_I | with_reducible exact gNe_I | with_reducible exact gLt_I | with_reducible exact gLe_I | with_reducible exact gGt_I | with_reducible exact gGe_I | with_reducible exact gEq_B | with_reducible exact gNe_B | with_reducible assumption)
  | ((with_reducible apply op2_it); exact rfl; exact rfl; (refine Sq.ix (by with_reducible assumption) ?_); first | omega | with_reducible assumption)
  | ((with_reducible apply op2_it); exact rfl; exact rfl; with_reducible exact gIx_last)
  | ((with_reducible apply op2_it); exact rfl; exact rfl; with_reducible exact gIx_lastd)
  | ((with_reducible apply op2_it); exact rfl; exact rfl; with_reducible exact gIx_last2)
  | ((with_reducible apply op2_it); exact rfl; exact rfl; (with_reducible apply gIx_Lz); first | with_reducible assumption | (simp; done) | (apply_assumption -symm -exfalso (transparency := .reducible) only [*] <;> first | with_reducible assumption | omega))
  | ((with_reducible apply op2_catTN); exact rfl; exact rfl; (simp; omega))
  | ((with_reducible apply op2_catLN); exact rfl; exact rfl; (simp; omega))
  | ((with_reducible apply op2_nl); exact rfl; exact rfl; (first | ((with_reducible apply gAdd_L) <;> (first | omega | (simp; done) | (simp; omega))) | with_reducible assumption); (try dsimp only [List.cons_append, List.nil_append]))
  | ((with_reducible apply op1_it); exact rfl; first | with_reducible exact gNeg_N | ((with_reducible apply gIsi_x); first | exact rfl | with_reducible assumption) | ((with_reducible apply gIsi2_x); first | exact rfl | with_reducible assumption))
  | ((with_reducible apply opA_it); exact rfl; first | with_reducible exact gLen_T | with_reducible exact gLen_L | with_reducible exact gLen_l | with_reducible exact gLen_t | with_reducible exact gTuple_T | with_reducible exact gMax_N | with_reducible exact gMin_N | with_reducible exact gInt_B | with_reducible exact gAll_c | with_reducible exact gAll_m | with_reducible exact gAny_m | with_reducible assumption)
  | ((with_reducible apply opA_it); exact rfl; exact Sq.len (by with_reducible assumption))
  | ((with_reducible apply opA_nl); exact rfl; exact Sq.lst (by with_reducible assumption))
  | ((with_reducible apply opA_tupSq); exact rfl; with_reducible assumption)
  | ((with_reducible apply opA_nl); exact rfl; first | with_reducible exact gList_L | with_reducible exact gList_T | with_reducible exact gList_pr)
  | ((with_reducible apply opA_nt); exact rfl; first | with_reducible exact gTuple_L)
  | ((with_reducible apply callQ_sh); exact rfl; with_reducible assumption; exact rfl; (try dsimp only [List.set_cons_zero, List.set_cons_succ, frOf_f, frOf_t, List.cons_append, List.nil_append]))
  | ((with_reducible apply callQ_fr); exact rfl; with_reducible assumption; exact rfl; (try dsimp only [List.set_cons_zero, List.set_cons_succ, frOf_f, frOf_t, List.cons_append, List.nil_append]))
  | ((with_reducible apply callQ_sh); exact rfl; (apply_assumption -symm -exfalso (transparency := .reducible) only [*] <;> first | with_reducible assumption | omega); exact rfl; (try dsimp only [List.set_cons_zero, List.set_cons_succ, frOf_f, frOf_t, List.cons_append, List.nil_append]))
  | ((with_reducible apply callQ_fr); exact rfl; (apply_assumption -symm -exfalso (transparency := .reducible) only [*] <;> first | with_reducible assumption | omega); exact rfl; (try dsimp only [List.set_cons_zero, List.set_cons_succ, frOf_f, frOf_t, List.cons_append, List.nil_append]))
  | ((with_reducible apply chQ); exact rfl; exact rfl; first | with_reducible exact gLt_N | with_reducible exact gLe_N | with_reducible exact gGt_N | with_reducible exact gGe_N | with_reducible exact gEq_N | with_reducible exact gNe_N)
  | ((with_reducible apply retQ); exact rfl; exact rfl)
  | ((with_reducible apply sqQ_Sq); exact rfl; with_reducible assumption; exact rfl; (try dsimp only [List.set_cons_zero, List.set_cons_succ, frOf_f, frOf_t, List.cons_append, List.nil_append]))
  | ((with_reducible apply sqQ_t); exact rfl; exact rfl; (try dsimp only [List.set_cons_zero, List.set_cons_succ, frOf_f, frOf_t, List.cons_append, List.nil_append]))
  | ((with_reducible apply sqQ_l); exact rfl; exact rfl; (try dsimp only [List.set_cons_zero, List.set_cons_succ, frOf_f, frOf_t, List.cons_append, List.nil_append]))
  | ((with_reducible apply datQ); exact rfl)
  | with_reducible apply st_for
  | with_reducible apply ex_callB'
  | ((with_reducible apply callB); exact rfl; exact rfl; decide; exact rfl; exact rfl)
  | ((with_reducible apply callB_strewn); exact rfl; exact rfl; exact rfl; decide; exact rfl)
  | ((with_reducible apply callB_atom); exact rfl; exact rfl; decide; exact rfl)
  | ((with_reducible apply sl_Tlo); exact rfl)
  | ((with_reducible apply sl_Thi); exact rfl)
  | ((with_reducible apply sl_Llo); exact rfl)
  | ((with_reducible apply sl_Lhi); exact rfl)
  | ((with_reducible apply sl_Plo); exact rfl)
  | ((with_reducible apply sl_llo); exact rfl)
  | ((with_reducible apply sl_lhi); exact rfl)
  | ((with_reducible apply lcQ); exact rfl; (first | exact enN _ | exact rfl); (first | omega | (simp; omega) | (simp; done)); (intro x hx; (try simp only [List.mem_range] at hx)))
  | ((with_reducible apply tstQ); exact rfl)
  | exact eltQ rfl rfl rfl
  | ((with_reducible apply backQ); exact rfl)
  | with_reducible apply exi_seq
  | with_reducible apply exi_enum
  | with_reducible apply exi_rng1
  | with_reducible apply exi_rng2
  | ((with_reducible apply rg1); omega)
  | ((with_reducible apply rg2); omega; omega)
  | with_reducible apply exo_none
  | with_reducible apply exo_some
  | ((with_reducible apply intQ); exact rfl)
  | ((with_reducible apply lr1N); exact rfl; omega)
  | ((with_reducible apply lr2N); exact rfl; exact rfl; omega; omega)
  | ((with_reducible apply exg_name); (try dsimp only [wipeE, List.set_cons_zero, List.set_cons_succ, frOf_f, frOf_t, List.cons_append, List.nil_append]))
  | with_reducible apply exg_pr
  | ((with_reducible apply exg_tupT); exact rfl)
  | ((with_reducible apply exg_tupL); exact rfl)
  | ((with_reducible apply exgs_nil); try dsimp only [List.set_cons_zero, List.set_cons_succ, frOf_f, frOf_t, List.cons_append, List.nil_append])
  | with_reducible apply exgs_cons
  | ((with_reducible apply two_t); exact rfl)
  | ((with_reducible apply two_f); exact rfl)
  | ((with_reducible apply two_t); (simp only [decide_eq_true_eq, decide_eq_false_iff_not, Bool.not_eq_true', Bool.not_eq_false', Bool.and_eq_true, Bool.or_eq_true, Bool.and_eq_false_iff, Bool.or_eq_false_iff, eq_self, and_self, not_true_eq_false, not_false_eq_true] <;> omega))
  | ((with_reducible apply two_f); (simp only [decide_eq_true_eq, decide_eq_false_iff_not, Bool.not_eq_true', Bool.not_eq_false', Bool.and_eq_true, Bool.or_eq_true, Bool.and_eq_false_iff, Bool.or_eq_false_iff, eq_self, and_self, not_true_eq_false, not_false_eq_true] <;> omega))
  | ((with_reducible apply two_d) <;> intro _)
  | ((with_reducible apply two_n) <;> intro _)
  | ((with_reducible apply two_g) <;> (intro h; (try simp only [Bool.and_eq_true, Bool.or_eq_true, Bool.and_eq_false_iff, Bool.or_eq_false_iff, decide_eq_true_eq, decide_eq_false_iff_not, Bool.not_eq_true', Bool.not_eq_false'] at h)))
  | ((with_reducible apply imp); (intro h; (try simp only [decide_eq_true_eq, decide_eq_false_iff_not, Bool.not_eq_true', Bool.not_eq_false'] at h)))
  | ((with_reducible apply impF); (intro h; (try simp only [decide_eq_true_eq, decide_eq_false_iff_not, Bool.not_eq_true', Bool.not_eq_false'] at h)))
  | with_reducible apply samQ
  | with_reducible apply eqQ
  | with_reducible exact ⟨rfl, rfl⟩
  | with_reducible exact rfl)
def F_has_word : FS := toF 1 1 none (fret (for' (fop2 gGt (fopA gLen (fcons (fcall none F_lower_pairs (fcons (fvar 0) fnil)) fnil)) (fc (.int 0))) (fop2 gEq (fopA gTuple (fcons (fvar 0) fnil)) (fcall none F_empty_sheet (fcons (fcall none F_people_of (fcons (fvar 0) fnil)) fnil)))))
def F_look_word_of : FS := toF 1 1 none (fifS (fnotT (fbool (fcall none F_has_word (fcons (fvar 0) fnil)))) fnever fskip)
def F_loop_from : FS := toF 2 7 none (fseq (fset [2] (f1 (fcall none F_people_of (fcons (fvar 0) fnil))))
    (fseq (fset [3, 4] (fcons (fdct1 (fvar 1) (fc (.bool true))) (fcons (flst (fcons (fvar 1) fnil)) fnil)))
    (fseq (whileD (fbool (fop2 gGt (fopA gLen (fcons (fvar 4) fnil)) (fc (.int 0)))) (fseq (fset [5] (f1 (fmeth 4 gPop fnil)))
    (ffor (fiseq (ftup (fcons (fop2 gIx (fvar 0) (fvar 5)) (fcons (fop2 gIx (fvar 0) (fop2 gAdd (fvar 2) (fvar 5))) fnil)))) (bname 6) (fifS (fbool (fop2 gDnin (fop2 gMod (fvar 6) (fvar 2)) (fvar 3))) (fseq (fasg (bdput 3 (fop2 gMod (fvar 6) (fvar 2))) (fc (.bool true)))
    (fdrop (fmeth 4 gAppend (fcons (fop2 gMod (fvar 6) (fvar 2)) fnil)))) fskip))) 1000000)
    (fret (fopA gTuple (fcons (fopA gSortedD (fcons (fvar 3) fnil)) fnil))))))
def F_loops : FS := toF 1 2 none (fret (fscS [1] (firng1 (fcons (fcall none F_people_of (fcons (fvar 0) fnil)) fnil)) (bname 1) (fcall none F_loop_from (fcons (fvar 0) (fcons (fvar 1) fnil)))))
def F_pure_loops : FS := toF 1 4 none (fseq (fset [1] (f1 (fcall none F_people_of (fcons (fvar 0) fnil))))
    (fret (flc [2] (fiseq (fcall none F_loops (fcons (fvar 0) fnil))) (bname 2) (fandT (fbool (fop2 gGt (fopA gLen (fcons (fvar 2) fnil)) (fc (.int 1)))) (fbool (fopA gAll (fcons (flc [3] (fiseq (fvar 2)) (bname 3) ftrue (fop2 gGe (fop2 gIx (fvar 0) (fvar 3)) (fvar 1))) fnil)))) (fvar 2))))
def F_fewest_calls : FS := toF 1 1 none (fseq (fdrop (fcall none F_look_word_of (fcons (fvar 0) fnil)))
    (fret (fop2 gAdd (fop2 gSub (fcall none F_people_of (fcons (fvar 0) fnil)) (fopA gLen (fcons (fcall none F_loops (fcons (fvar 0) fnil)) fnil))) (fop2 gMul (fc (.int 2)) (fopA gLen (fcons (fcall none F_pure_loops (fcons (fvar 0) fnil)) fnil))))))
def F_before_pair : FS := toF 2 7 none (fseq (fset [2, 3] (fcons (fcall none F_people_of (fcons (fvar 0) fnil)) (fcons (fcall none F_pure_loops (fcons (fvar 0) fnil)) fnil)))
    (fseq (fasg (btup 2 (bcons (bname 4) (bcons (bname 5) bnil))) (fvar 1))
    (fseq (fifS (forT (fbool (fop2 gGt (fopA gLen (fcons (fcall none F_lower_pairs (fcons (fvar 0) fnil)) fnil)) (fc (.int 1)))) (fbool (fop2 gEq (fopA gLen (fcons (fvar 3) fnil)) (fc (.int 0))))) (fret (fcall none F_with_joins (fcons (fvar 0) (fcons (flst (fcons (ftup (fcons (fvar 4) (fcons (fop2 gAdd (fvar 2) (fvar 4)) fnil))) (fcons (ftup (fcons (fvar 5) (fcons (fop2 gAdd (fvar 2) (fvar 5)) fnil))) fnil))) fnil)))) fskip)
    (fseq (fset [6] (f1 (fop2 gIx (fop2 gIx (fvar 3) (fc (.int 0))) (fc (.int 0)))))
    (fret (fcall none F_with_joins (fcons (fvar 0) (fcons (flst (fcons (ftup (fcons (fop2 gAdd (fvar 2) (fvar 5)) (fcons (fop2 gIx (fvar 0) (fvar 6)) fnil))) (fcons (ftup (fcons (fop2 gAdd (fvar 2) (fvar 4)) (fcons (fvar 6) fnil))) fnil))) fnil))))))))
def F_before_call : FS := toF 2 5 none (fseq (fset [2] (f1 (fcall none F_people_of (fcons (fvar 0) fnil))))
    (fseq (fasg (btup 2 (bcons (bname 3) (bcons (bname 4) bnil))) (fvar 1))
    (fseq (fifS (fbool (fop2 gEq (fop2 gIx (fvar 0) (fvar 3)) (fvar 4))) (fret (fcall none F_before_pair (fcons (fvar 0) (fcons (fvar 1) fnil)))) fskip)
    (fseq (fifS (fandT (fbool (fop2 gLt (fop2 gIx (fvar 0) (fvar 4)) (fvar 2))) (fbool (fop2 gGe (fop2 gIx (fvar 0) (fvar 3)) (fvar 2)))) (fset [3, 4] (fcons (fvar 4) (fcons (fvar 3) fnil))) fskip)
    (fret (fcall none F_with_joins (fcons (fvar 0) (fcons (flst (fcons (ftup (fcons (fop2 gAdd (fvar 2) (fvar 3)) (fcons (fop2 gIx (fvar 0) (fvar 4)) fnil))) (fcons (ftup (fcons (fop2 gAdd (fvar 2) (fvar 4)) (fcons (fvar 4) fnil))) fnil))) fnil))))))))
def F_word_for : FS := toF 1 4 none (fseq (fset [1, 2] (fcons (flst fnil) (fcons (fopA gTuple (fcons (fvar 0) fnil)) fnil)))
    (fseq (ffor (firng1 (fcons (fcall none F_fewest_calls (fcons (fvar 0) fnil)) fnil)) (bname 3) (fseq (fdrop (fmeth 1 gAppend (fcons (fop2 gIx (fcall none F_lower_pairs (fcons (fvar 2) fnil)) (fc (.int 0))) fnil)))
    (fset [2] (f1 (fcall none F_before_call (fcons (fvar 2) (fcons (fop2 gIx (fvar 1) (fop1 gNeg (fc (.int 1)))) fnil)))))))
    (fret (fop1 gRev (fvar 1)))))
theorem put_Kd {l : List Nat} {x : Nat} (h : x ∉ l) (hl : l.length < 16777216) : putKey (Kd l) (.bool true) (N x) = some (Kd (l ++ [x])) := by
  show (if hdOf (Kd l) = true then none else (some (Sum.inl (x : Int) : Key)).bind fun kk => if (Kd l).length < 16777216 then some (putD (Kd l) (isKK kk) (N x) (.bool true)) else none) = _
  rw [hd_Kd, if_neg Bool.false_ne_true, Option.bind_some, if_pos (by simpa [Kd] using hl), putD_Kd h]
theorem gPop_N {l : List Nat} {x : Nat} : gPop (Ns (l ++ [x])) [] = some (N x, Ns l) := by
  have e : Ns (l ++ [x]) = Ns l ++ [N x] := by simp [Ns]
  rw [e]
  show ((Ns l ++ [N x])[(Ns l ++ [N x]).length - 1]?).map (fun d => (d, (Ns l ++ [N x]).dropLast)) = _
  rw [List.dropLast_concat]
  simp
theorem keysI_Kd : ∀ l : List Nat, keysI (Kd l) = some (l.map fun x : Nat => (x : Int))
  | [] => rfl
  | x :: l => by
    show (keysI (Kd l)).map _ = _
    rw [keysI_Kd l]; rfl
theorem sortI_Ns {a b : List Nat} (h : a.Perm b) (ha : a.Pairwise (· ≤ ·)) : sortI (b.map fun x : Nat => (x : Int)) = a.map fun x : Nat => (x : Int) := by
  refine (sortI_eq (h.map _) ?_).symm
  rw [List.pairwise_map]
  exact ha.imp fun h => by omega
theorem gSortedD_Kd {a b : List Nat} (h : a.Perm b) (ha : a.Pairwise (· ≤ ·)) (hl : b.length < 64) : gSortedD [.dict (Kd b)] = some (.nl (Ns a)) := by
  show (keysI (Kd b)).bind _ = _
  rw [keysI_Kd, Option.bind_some, if_pos (by simpa using hl), sortI_Ns h ha]
  simp [Ns]
theorem clsOf_up {n : Nat} {s : List Nat} {x : Nat} : (clsOf n s x).Pairwise (· < ·) := by
  refine List.Pairwise.sublist List.filter_sublist ?_
  exact List.pairwise_lt_range
section
variable {n : Nat} {s : List Nat} {A : D}
theorem loop_from_w (hA : Sq A s) (J : Joined (2 * n) s) (hn : n ≤ 60) {x : Nat} (hx : x < n) : F_loop_from [A, N x] = some ⟨false, .tuple (Ns (clsOf n s x)), []⟩ := by
  have c1 := people_w hA J.len
  have hl := J.len
  have h0 : 0 < n := by omega
  refine Cl.eq ?_
  unfold F_loop_from
  repeat' (first | infer_instance | fail)
  refine ⟨.fr (.dict (Kd [x])), _, rfl, ?_⟩
  repeat' (first | infer_instance | fail)
  refine st_while (2 * n + 1) (fun m ρ => ∃ (met wt : List Nat) (h e : Option (Fl × D)), ρ = [sh A, sh (N x), sh (N n), ow (.dict (Kd met)), ow (.list (Ns wt)), h, e] ∧ met.Nodup ∧ (∀ y ∈ met, y < n ∧ lb n s y = lb n s x) ∧ x ∈ met ∧ (∀ y ∈ wt, y ∈ met) ∧
    (∀ y ∈ met, y ∉ wt → gt s y % n ∈ met ∧ gt s (n + y) % n ∈ met) ∧ 2 * (n - met.length) + wt.length ≤ m ∧ m ≤ 2 * n + 1) ⟨[x], [x], none, none, rfl, by simp, fun y hy => by rw [List.mem_singleton.mp hy]; exact ⟨hx, rfl⟩, .head _, fun y hy => hy, fun y hy hn => absurd hy hn, by simp; omega, Nat.le_refl _⟩ (by omega) ?_
  rintro m ρ ⟨met, wt, h, e, rfl, nd, hm, hxm, hwt, hcl, hms, hmx⟩
  repeat' (first | infer_instance | fail)
  rotate_left
  · -- the end: the class is met
    rename_i hz
    have hwt0 : wt = [] := List.length_eq_zero_iff.mp (by omega)
    subst hwt0
    have key : ∀ y, y < n → lb n s y = lb n s x → y ∈ met := fun y hy e => by
      refine lb_set (s := s) (C := fun y => y ∈ met) (fun z hz => ?_) hx hy e.symm hxm
      have g : ∀ z, z < 2 * n → z % n ∈ met → gt s z % n ∈ met := fun z hz k => by
        have := hcl _ k (by simp)
        by_cases c : z < n
        · rw [Nat.mod_eq_of_lt c] at this; exact this.1
        · have zm : z % n = z - n := by rw [Nat.mod_eq_sub_mod (by omega), Nat.mod_eq_of_lt (by omega)]
          rw [zm, show n + (z - n) = z by omega] at this
          exact this.2
      refine ⟨g z hz, fun k => ?_⟩
      have := g _ (J.lt hz) k
      rwa [J.gg hz] at this
    have hp : (clsOf n s x).Perm met := (List.perm_ext_iff_of_nodup clsOf_nodup nd).mpr fun y => by
      rw [clsOf_mem]
      exact ⟨fun ⟨a, b⟩ => key y a b, fun k => hm y k⟩
    have hlen : met.length ≤ n := by
      have := sub_len (a := met) (b := List.range n) nd fun y hy => List.mem_range.mpr (hm y hy).1
      simpa using this
    have hS := gSortedD_Kd hp (clsOf_up.imp fun h => Nat.le_of_lt h) (by omega)
    repeat' (first | infer_instance | fail)
    refine opA_nl rfl hS ?_
    repeat' (first | infer_instance | fail)
  · rename_i hz
    obtain ⟨init, here, rfl⟩ : ∃ init here, wt = init ++ [here] := by
      rcases List.eq_nil_or_concat wt with e | ⟨a, b, e⟩
      · rw [e] at hz; simp at hz
      · exact ⟨a, b, by rw [e, List.concat_eq_append]⟩
    have hP := gPop_N (l := init) (x := here)
    have hhm : here ∈ met := hwt here (by simp)
    have hh := hm here hhm
    repeat' (first | infer_instance | fail)
    have hms' : 2 * (n - met.length) + init.length + 1 ≤ m := by simp at hms; omega
    have hin : ∀ z ∈ [gt s here, gt s (n + here)], z < 2 * n ∧ lb n s (z % n) = lb n s x := fun z hz => by
      rcases List.mem_cons.mp hz with e | hz
      · rw [e]; exact ⟨J.lt (by omega), by rw [← lb_up hh.1]; exact hh.2⟩
      · rw [List.mem_singleton.mp hz]; exact ⟨J.lt (by omega), by rw [← lb_dn hh.1]; exact hh.2⟩
    refine forQ (l := [gt s here, gt s (n + here)]) (enc := N) (fun pre ρ => ∃ (met' wt : List Nat) (e : Option (Fl × D)), ρ = [sh A, sh (N x), sh (N n), ow (.dict (Kd met')), ow (.list (Ns wt)), sh (N here), e] ∧ met'.Nodup ∧ (∀ y ∈ met', y < n ∧ lb n s y = lb n s x) ∧ x ∈ met' ∧ (∀ y ∈ wt, y ∈ met') ∧
      (∀ y ∈ met', y ∉ wt → y ≠ here → gt s y % n ∈ met' ∧ gt s (n + y) % n ∈ met') ∧ here ∈ met' ∧ (∀ z ∈ pre, z % n ∈ met') ∧ 2 * (n - met'.length) + wt.length ≤ 2 * (n - met.length) + init.length) rfl
      ⟨met, init, e, rfl, nd, hm, hxm, fun y hy => hwt y (by simp [hy]), fun y hy h1 h2 => hcl y hy (by simp [h1, h2]), hhm, fun z hz => (nomatch hz), Nat.le_refl _⟩ ?_ ?_
    · rintro pre z post ρ el ⟨met', wt, e, rfl, b1, b2, b3, b4, b5, b6, b7, b8⟩
      obtain ⟨z1, z2⟩ := hin z (by rw [el]; simp)
      have zl := Nat.mod_lt z h0
      have hK := nin_Kd (l := met') (x := z % n)
      have hlen : met'.length ≤ n := by
        have := sub_len (a := met') (b := List.range n) b1 fun y hy => List.mem_range.mpr (b2 y hy).1
        simpa using this
      repeat' (first | infer_instance | fail)
      · rename_i hz
        have hlen2 : (met' ++ [z % n]).length ≤ n := by
          have := sub_len (a := met' ++ [z % n]) (b := List.range n) (List.nodup_append.mpr ⟨b1, by simp, fun a ha b hb e => hz (by rw [← List.mem_singleton.mp hb, ← e]; exact ha)⟩) fun y hy => List.mem_range.mpr (by
            rcases List.mem_append.mp hy with hy | hy
            · exact (b2 y hy).1
            · rw [List.mem_singleton.mp hy]; exact zl)
          simpa using this
        have hwl : wt.length < 16777216 := by omega
        refine putQ rfl rfl (by decide) (put_Kd hz (by omega)) ?_
        repeat' (first | infer_instance | fail)
        refine ⟨met' ++ [z % n], wt ++ [z % n], _, rfl, List.nodup_append.mpr ⟨b1, by simp, fun a ha b hb e => hz (by rw [← List.mem_singleton.mp hb, ← e]; exact ha)⟩, fun y hy => ?_, by simp [b3], fun y hy => ?_, fun y hy h1 h2 => ?_, by simp [b6], fun y hy => ?_, by simp at hlen2 ⊢; omega⟩
        · rcases List.mem_append.mp hy with hy | hy
          · exact b2 y hy
          · rw [List.mem_singleton.mp hy]; exact ⟨zl, z2⟩
        · rcases List.mem_append.mp hy with hy | hy
          · exact List.mem_append_left _ (b4 y hy)
          · exact List.mem_append_right _ hy
        · simp only [List.mem_append, List.mem_singleton, not_or] at h1
          rcases List.mem_append.mp hy with hy | hy
          · have := b5 y hy h1.1 h2
            exact ⟨List.mem_append_left _ this.1, List.mem_append_left _ this.2⟩
          · exact absurd (List.mem_singleton.mp hy) h1.2
        · rcases List.mem_append.mp hy with hy | hy
          · exact List.mem_append_left _ (b7 y hy)
          · rw [List.mem_singleton.mp hy]; simp
      · rename_i hz
        refine ⟨met', wt, _, rfl, b1, b2, b3, b4, b5, b6, fun y hy => ?_, b8⟩
        rcases List.mem_append.mp hy with hy | hy
        · exact b7 y hy
        · rw [List.mem_singleton.mp hy]; exact hz
    · rintro ρ ⟨met', wt, e, rfl, b1, b2, b3, b4, b5, b6, b7, b8⟩
      refine ⟨m - 1, by omega, met', wt, _, e, rfl, b1, b2, b3, b4, fun y hy h1 => ?_, by omega, by omega⟩
      by_cases c : y = here
      · rw [c]; exact ⟨b7 _ (by simp), b7 _ (by simp)⟩
      · exact b5 y hy h1 c
abbrev inZ (q : List Nat) : List Int := q.map fun x : Nat => (x : Int)
theorem inZ_inj {a b : List Nat} (h : inZ a = inZ b) : a = b := (List.map_inj_right (fun x y e => Int.ofNat.inj e)).mp h
theorem Ts_map (l : List (List Nat)) : (l.map inZ).map tuD = Ts l := by
  unfold Ts tuD
  rw [List.map_map]
  refine List.map_congr_left fun q _ => ?_
  simp [Ns]
theorem lps_put : ∀ m, ((List.range m).map fun x => inZ (clsOf n s x)).foldl putS [] = (lps n s m).map inZ
  | 0 => rfl
  | m + 1 => by
    rw [List.range_succ, List.map_append, List.foldl_append, lps_put m]
    show putS ((lps n s m).map inZ) (inZ (clsOf n s m)) = (if clsOf n s m ∈ lps n s m then lps n s m else lps n s m ++ [clsOf n s m]).map inZ
    unfold putS
    have e : inZ (clsOf n s m) ∈ (lps n s m).map inZ ↔ clsOf n s m ∈ lps n s m := by
      rw [List.mem_map]
      exact ⟨fun ⟨a, h1, h2⟩ => inZ_inj h2 ▸ h1, fun h => ⟨_, h, rfl⟩⟩
    by_cases h : clsOf n s m ∈ lps n s m
    · rw [if_pos h, if_pos (e.mpr h)]
    · rw [if_neg h, if_neg fun z => h (e.mp z)]; simp
theorem lps_up : ∀ m, m ≤ n → (lps n s m).Pairwise fun C D => ltL (inZ D) (inZ C) = false
  | 0, _ => by simp [lps]
  | m + 1, hm => by
    unfold lps
    by_cases h : clsOf n s m ∈ lps n s m
    · rw [if_pos h]; exact lps_up m (by omega)
    · rw [if_neg h]
      refine List.pairwise_append.mpr ⟨lps_up m (by omega), by simp, fun C hC D hD => ?_⟩
      rw [List.mem_singleton.mp hD]
      obtain ⟨x, hx, rfl⟩ := (lps_mem m).mp hC
      have hx1 : x ∈ clsOf n s x := clsOf_self (by omega)
      have hm1 : m ∈ clsOf n s m := clsOf_self (by omega)
      have u1 := clsOf_up (n := n) (s := s) (x := x)
      have u2 := clsOf_up (n := n) (s := s) (x := m)
      have lo : ∀ y ∈ clsOf n s m, m ≤ y := fun y hy => by
        apply Classical.byContradiction
        intro c
        have e := clsOf_eq (s := s) (clsOf_mem.mp hy).2
        exact h ((lps_mem m).mpr ⟨y, by omega, e.symm⟩)
      cases e1 : clsOf n s x with
      | nil => rw [e1] at hx1; cases hx1
      | cons c l1 =>
        cases e2 : clsOf n s m with
        | nil => rw [e2] at hm1; cases hm1
        | cons d l2 =>
          rw [e1] at u1 hx1
          rw [e2] at lo
          have h1 := (List.pairwise_cons.mp u1).1
          have h2 : c ≤ x := by
            rcases List.mem_cons.mp hx1 with e | e
            · omega
            · exact Nat.le_of_lt (h1 x e)
          have h3 := lo d (.head _)
          show (if ((d : Nat) : Int) = ((c : Nat) : Int) then _ else decide (((d : Nat) : Int) < ((c : Nat) : Int))) = false
          rw [if_neg (by omega)]
          exact decide_eq_false (by omega)
theorem ex_scS {vs : List Nat} {g : Fi} {b : Fg} {fe : Fe} {ρ : En} {Q : RV → En → Prop} (k : ExI g ρ fun ds ρ1 => noOwn ρ1 vs = true ∧ ∃ ms ρ2, sc1 vs b fe ds ρ1 [] = some (ms, ρ2) ∧ Q (.fr (.list ((sortM ms).map tuD))) ρ2) : Ex (fscS vs g b fe) ρ Q := by
  obtain ⟨ds, ρ1, e1, hn, ms, ρ2, e2, k⟩ := k
  refine ⟨_, _, ?_, k⟩
  simp only [fscS, e1, Option.bind_some, hn, if_true, e2, Option.map_some]
theorem intsOf_Ns' (l : List Nat) : tupI (.tuple (Ns l)) = if l = [] then none else some (inZ l) := by
  show (intsOf (Ns l)).bind _ = _
  rw [intsOf_Ns, Option.bind_some]
  cases l <;> rfl
theorem scQ {vs : List Nat} {b : Fg} {fe : Fe} {ρ : En} {f : Nat → List Nat} : ∀ {l : List Nat} {acc : List (List Int)}, acc.length + l.length ≤ 60 → (∀ x ∈ l, f x ≠ []) →
    (∀ x ∈ l, ExG b (N x) (wipeE ρ vs) fun ρ2 => Ex fe ρ2 fun r ρ3 => dat ρ3 r = some (.tuple (Ns (f x))) ∧ backE ρ ρ3 vs = ρ) → sc1 vs b fe (Ns l) ρ acc = some ((l.map fun x => inZ (f x)).foldl putS acc, ρ)
  | [], acc, _, _, _ => rfl
  | x :: l, acc, hl, hf, h => by
    obtain ⟨ρ2, e1, r, ρ3, e2, e3, e4⟩ := h x (.head _)
    have hp : (putS acc (inZ (f x))).length ≤ acc.length + 1 := by unfold putS; split <;> simp
    have ih := scQ (vs := vs) (b := b) (fe := fe) (ρ := ρ) (f := f) (l := l) (acc := putS acc (inZ (f x))) (by simp at hl; omega) (fun y hy => hf y (.tail _ hy)) fun y hy => h y (.tail _ hy)
    have hlt : acc.length < 60 := by simp at hl; omega
    show sc1 vs b fe (N x :: Ns l) ρ acc = _
    simp only [sc1, e1, Option.bind_some, e2, e3, intsOf_Ns', if_neg (hf x (.head _)), if_pos hlt, e4]
    exact ih
theorem loops_w (hA : Sq A s) (J : Joined (2 * n) s) (hn : n ≤ 60) : F_loops [A] = some ⟨true, .list (Ts (lps n s n)), []⟩ := by
  have c1 := people_w hA J.len
  refine Cl.eq ?_
  unfold F_loops
  repeat' (first | infer_instance | fail)
  refine ex_scS ?_
  repeat' (first | infer_instance | fail)
  refine ⟨rfl, (lps n s n).map inZ, [sh A, none], ?_, ?_⟩
  · show sc1 [1] _ _ (Ns (List.range n)) _ [] = _
    rw [scQ (f := clsOf n s) (by simp; omega) (fun x hx e => ?_) fun x hx => ?_, lps_put]
    · have := clsOf_self (s := s) (List.mem_range.mp hx)
      rw [e] at this
      cases this
    · have hx := List.mem_range.mp hx
      have c2 := loop_from_w hA J hn hx
      repeat' (first | infer_instance | fail)
  · rw [← sortM_eq (List.Perm.refl _) (List.pairwise_map.mpr (lps_up n (Nat.le_refl n))), Ts_map]
    repeat' (first | infer_instance | fail)
end
end Lp
set_option Elab.async false
set_option linter.all false
set_option maxRecDepth 100000
set_option maxHeartbeats 4000000
namespace Sh
open PySem PySem.Spec PyProof.Rows L2 DL
end Sh
set_option Elab.async false
set_option linter.all false
set_option maxRecDepth 100000
set_option maxHeartbeats 4000000
namespace Lp
open PySem PySem.Spec PyProof.Rows L2 DL
open Sh
open Sv hiding F_law_take F_law_strewn F_law_same F_law_box F_law_read F_law_pick
def F_sheet_settles : FS := toF 2 5 none (fseq (fset [2, 3, 4] (fcons (fcall none F_sheet_of (fcons (fvar 0) (fcons (fvar 1) fnil))) (fcons (fcall none F_empty_sheet (fcons (fvar 0) fnil)) (fcons fdctT fnil))))
    (fseq (whileD (fbool (fop2 gDnin (fvar 3) (fvar 4))) (fseq (fasg (bdput 4 (fvar 3)) (fopA gDlen (fcons (fvar 4) fnil)))
    (fset [3] (f1 (fcall none F_followed (fcons (fvar 3) (fcons (fvar 2) fnil)))))) 1000000)
    (fret (ftup (fcons (fop2 gDget (fvar 4) (fvar 3)) (fcons (fop2 gSub (fopA gDlen (fcons (fvar 4) fnil)) (fop2 gDget (fvar 4) (fvar 3))) fnil))))))
section
end
end Lp
set_option Elab.async false
set_option linter.all false
set_option maxRecDepth 100000
set_option maxHeartbeats 4000000
namespace Su
open PySem PySem.Spec PyProof.Rows L2 DL
open Sh hiding F_law_take F_law_strewn F_law_same F_law_box F_law_read
def F_law_draw : Nat → FS
  | 0 => fun _ => none
  | m + 1 => toF 2 5 (some 0) (fseq (fifS (fbool (fop2 gGt (fop2 gIx (fvar 0) (fc (.int 0))) (fc (.int 0)))) (fseq (fset [2] (f1 (fop2 gMod (fop2 gIx (fvar 0) (fc (.int 0))) (fvar 1))))
    (fseq (fasg (bsub 0 (fc (.int 0))) (fop2 gFdiv (fop2 gIx (fvar 0) (fc (.int 0))) (fvar 1)))
    (fret (fvar 2)))) fskip)
    (fseq (fifS (fbool (fop2 gGt (fvar 1) (fop2 gPow (fc (.int 10)) (fc (.int 7))))) (fret (fop2 gMod (fop2 gAdd (fcall (some 0) (F_law_draw m) (fcons (fvar 0) (fcons (fop2 gPow (fc (.int 10)) (fc (.int 7))) fnil))) (fop2 gMul (fop2 gPow (fc (.int 10)) (fc (.int 7))) (fcall (some 0) (F_law_draw m) (fcons (fvar 0) (fcons (fop2 gAdd (fop2 gFdiv (fop2 gSub (fvar 1) (fc (.int 1))) (fop2 gPow (fc (.int 10)) (fc (.int 7)))) (fc (.int 1))) fnil))))) (fvar 1))) fskip)
    (fseq (fasg (bsub 0 (fc (.int 2))) (fop2 gAdd (fop2 gIx (fvar 0) (fc (.int 2))) (fc (.int 1))))
    (fseq (fset [3] (f1 (fop2 gMod (fop2 gMul (fop2 gAdd (fop2 gIx (fvar 0) (fc (.int 1))) (fop2 gMul (fc (.int 48271)) (fop2 gIx (fvar 0) (fc (.int 2))))) (fop2 gAdd (fc (.int 39373)) (fop2 gIx (fvar 0) (fc (.int 2))))) (fc (.int 2147483647)))))
    (fseq (fset [4] (f1 (fop2 gMod (fop2 gMul (fop2 gAdd (fop2 gAdd (fvar 3) (fop2 gIx (fvar 0) (fc (.int 2)))) (fop2 gFdiv (fop2 gIx (fvar 0) (fc (.int 1))) (fc (.int 1000003)))) (fop2 gAdd (fop2 gMod (fvar 3) (fc (.int 40009))) (fc (.int 7)))) (fc (.int 2147483629)))))
    (fret (fop2 gMod (fop2 gFdiv (fop2 gMod (fop2 gAdd (fop2 gMul (fvar 4) (fc (.int 48271))) (fvar 3)) (fc (.int 2147483587))) (fc (.int 64))) (fvar 1))))))))
def F_law_pick : FS := toF 2 2 (some 0) (fret (fop2 gIx (fvar 1) (fcall (some 0) (F_law_draw 3) (fcons (fvar 0) (fcons (fopA gLen (fcons (fvar 1) fnil)) fnil)))))
def F_law_same : Nat → FS
  | 0 => fun _ => none
  | m + 1 => toF 2 4 none (fseq (fifS (fbool (fop1 (gIsi2 "list" "tuple") (fvar 1))) (fseq (fifS (forT (fbool (fop2 gNe (fop1 (gIsi "list") (fvar 0)) (fop1 (gIsi "list") (fvar 1)))) (fbool (fop2 gNe (fop1 (gIsi "tuple") (fvar 0)) (fop1 (gIsi "tuple") (fvar 1))))) (fret (fc (.bool false))) fskip)
    (fret (fand (fop2 gEq (fopA gLen (fcons (fvar 0) fnil)) (fopA gLen (fcons (fvar 1) fnil))) (fopA gAll (fcons (flc [2, 3] (fizip (fcons (fvar 0) (fcons (fvar 1) fnil))) (btup 2 (bcons (bname 2) (bcons (bname 3) bnil))) ftrue (fcall none (F_law_same m) (fcons (fvar 2) (fcons (fvar 3) fnil)))) fnil))))) fskip)
    (fseq (fifS (forT (fbool (fop2 gIs (fvar 1) (fc .none))) (fbool (fop1 (gIsi2 "bool" "str") (fvar 1)))) (fret (fand (fop2 gEq (fvar 0) (fvar 1)) (fand (fop2 gEq (fop1 (gIsi "bool") (fvar 0)) (fop1 (gIsi "bool") (fvar 1))) (fop2 gEq (fop2 gIs (fvar 0) (fc .none)) (fop2 gIs (fvar 1) (fc .none)))))) fskip)
    (fret (fand (fop1 (gIsi "int") (fvar 0)) (fand (fnot (fop1 (gIsi "bool") (fvar 0))) (fop2 gEq (fvar 0) (fvar 1)))))))
end Su
set_option Elab.async false
set_option linter.all false
set_option maxRecDepth 100000
set_option maxHeartbeats 4000000
namespace Su
open PySem PySem.Spec PyProof.Rows L2 DL
open Sh hiding F_law_take F_law_strewn F_law_same F_law_box F_law_read
end Su
set_option Elab.async false
set_option linter.all false
set_option maxRecDepth 100000
set_option maxHeartbeats 4000000
namespace Su
open PySem PySem.Spec PyProof.Rows L2 DL
open Sh hiding F_law_take F_law_strewn F_law_same F_law_box F_law_read
end Su
set_option Elab.async false
set_option linter.all false
set_option maxRecDepth 100000
set_option maxHeartbeats 4000000
namespace Lp
open PySem PySem.Spec PyProof.Rows L2 DL
open Sh
theorem neL_self {ds : List D} (h : SeqAt.shaped (.list ds) = true) : gNe (.list ds) (.list ds) = some (.it (.bool false)) := by
  unfold gNe
  show ((if SeqAt.shaped (.list ds) && SeqAt.shaped (.list ds) then some (PyData.eqv (.list ds) (.list ds)) else none).map _) = _
  rw [h, Bool.and_self, if_pos rfl, SeqAt.eqv_refl _ (SeqAt.canLay_of_shaped h)]; rfl
end Lp
set_option Elab.async false
set_option linter.all false
set_option maxRecDepth 100000
set_option maxHeartbeats 4000000
namespace Sh
open PySem PySem.Spec PyProof.Rows L2 DL
end Sh
set_option Elab.async false
set_option linter.all false
set_option maxRecDepth 100000
set_option maxHeartbeats 4000000
namespace Sv
open PySem PySem.Spec PyProof.Rows L2 DL Sh
end Sv
set_option Elab.async false
set_option linter.all false
set_option maxRecDepth 100000
set_option maxHeartbeats 4000000
namespace Sv
open PySem PySem.Spec PyProof.Rows L2 DL
open Sh
end Sv
set_option Elab.async false
set_option linter.all false
namespace Sh
open PySem PySem.Spec PyProof.Rows L2 DL
/-- True is returned; the source's slot as it is -/
def chkT (o : Option Out) : Option (List D) := match o with
  | some (Out.rt (RV.sh (.bool true)) ρ) => (match (ρ[0]? : Option (Option (Fl × D))) with
    | some (some (.bx, .list b)) => some b
    | _ => none)
  | _ => none
theorem chkT_spec {o : Option Out} {b : List D} (h : chkT o = some b) : ∃ ρ : En, o = some (.rt (.sh (.bool true)) ρ) ∧ ρ[0]? = some (some (.bx, .list b)) := by
  unfold chkT at h
  split at h
  · split at h
    · cases h
      exact ⟨_, rfl, by assumption⟩
    · cases h
  · cases h
theorem st_chk {s : Fst} {ρ : En} {b : List D} {Nx B C : En → Prop} {R : RV → En → Prop} (h : chkT (s ρ) = some b) (k : ∀ ρ' : En, ρ'[0]? = some (some (.bx, .list b)) → R (.sh (.bool true)) ρ') : St s ρ Nx R B C := by
  obtain ⟨ρ', e, q⟩ := chkT_spec h
  exact ⟨_, e, k ρ' q⟩
end Sh
set_option Elab.async false
set_option linter.all false
set_option maxRecDepth 100000
set_option maxHeartbeats 1000000
namespace Sh
open PySem PySem.Spec PyProof.Rows L2 DL
end Sh
set_option Elab.async false
set_option linter.all false
set_option maxRecDepth 100000
set_option maxHeartbeats 1000000
namespace Sh
open PySem PySem.Spec PyProof.Rows L2 DL
section
end
section
end
end Sh
set_option Elab.async false
set_option linter.all false
set_option maxRecDepth 100000
set_option maxHeartbeats 1000000
namespace Sh
open PySem PySem.Spec PyProof.Rows L2 DL
section
end
section
end
end Sh
set_option Elab.async false
set_option linter.all false
set_option maxRecDepth 100000
set_option maxHeartbeats 1000000
namespace Sh
open PySem PySem.Spec PyProof.Rows L2 DL
section
end
section
end
end Sh
set_option Elab.async false
set_option linter.all false
set_option maxRecDepth 100000
set_option maxHeartbeats 4000000
namespace Lp
open PySem PySem.Spec PyProof.Rows L2 DL
open Sh hiding F_law_take F_law_strewn F_law_same F_law_box F_law_read
open Sv
def F_law_led_web : FS := toF 2 5 none (fseq (fset [2] (f1 (fop2 gAdd (fop2 gAdd (fop2 gAdd (flst (fcons (fc (.int 1)) (fcons (fc (.int 0)) fnil))) (frep (flst (fcons (fc (.int 0)) fnil)) (fop2 gSub (fvar 0) (fc (.int 2))))) (flst (fcons (fop2 gAdd (fvar 0) (fc (.int 1))) (fcons (fvar 0) fnil)))) (frep (flst (fcons (fc (.int 0)) fnil)) (fop2 gSub (fvar 0) (fc (.int 2)))))))
    (fseq (ffor (fien (fvar 1)) (btup 2 (bcons (bname 3) (bcons (bname 4) bnil))) (fseq (fasg (bsub 2 (fop2 gAdd (fc (.int 2)) (fvar 3))) (fop2 gAdd (fop2 gAdd (fvar 0) (fc (.int 2))) (fvar 4)))
    (fasg (bsub 2 (fop2 gAdd (fop2 gAdd (fvar 0) (fc (.int 2))) (fvar 4))) (fop2 gAdd (fc (.int 2)) (fvar 3)))))
    (fret (fopA gTuple (fcons (fvar 2) fnil)))))
section
end
end Lp
set_option Elab.async false
set_option linter.all false
set_option maxRecDepth 100000
set_option maxHeartbeats 0
namespace K62
open PySem PySem.Spec PyProof.Rows L2 DL
open Sh hiding F_law_take F_law_strewn F_law_same F_law_box F_law_read F_law_with
open Sv
open Lp hiding F_law_led_web
def F_law_with : FS := toF 2 5 none (fseq (fset [2] (f1 (fop2 gAdd (flst (fcons (fc (.int 1)) (fcons (fc (.int 0)) fnil))) (frep (flst (fcons (fc (.int 0)) fnil)) (fop2 gSub (fvar 0) (fc (.int 2)))))))
    (fseq (ffor (fiseq (fvar 1)) (btup 2 (bcons (bname 3) (bcons (bname 4) bnil))) (fseq (fasg (bsub 2 (fop2 gAdd (fc (.int 2)) (fvar 3))) (fop2 gAdd (fc (.int 2)) (fvar 4)))
    (fasg (bsub 2 (fop2 gAdd (fc (.int 2)) (fvar 4))) (fop2 gAdd (fc (.int 2)) (fvar 3)))))
    (fret (fopA gTuple (fcons (fvar 2) fnil)))))
def F_law_led_web : FS := toF 2 5 none (fseq (fset [2] (f1 (fop2 gAdd (fop2 gAdd (fop2 gAdd (flst (fcons (fc (.int 1)) (fcons (fc (.int 0)) fnil))) (frep (flst (fcons (fc (.int 0)) fnil)) (fop2 gSub (fvar 0) (fc (.int 2))))) (flst (fcons (fop2 gAdd (fvar 0) (fc (.int 1))) (fcons (fvar 0) fnil)))) (frep (flst (fcons (fc (.int 0)) fnil)) (fop2 gSub (fvar 0) (fc (.int 2)))))))
    (fseq (ffor (fien (fvar 1)) (btup 2 (bcons (bname 3) (bcons (bname 4) bnil))) (fseq (fasg (bsub 2 (fop2 gAdd (fc (.int 2)) (fvar 3))) (fop2 gAdd (fop2 gAdd (fvar 0) (fc (.int 2))) (fvar 4)))
    (fasg (bsub 2 (fop2 gAdd (fop2 gAdd (fvar 0) (fc (.int 2))) (fvar 4))) (fop2 gAdd (fc (.int 2)) (fvar 3)))))
    (fret (fopA gTuple (fcons (fvar 2) fnil)))))
def F_law_right : FS := toF 1 19 (some 0) (fseq (fset [1] (f1 (fop2 gAdd (fc (.int 4)) (fop2 gMul (fc (.int 2)) (fcall (some 0) (F_law_take 3) (fcons (fvar 0) (fcons (fc (.int 9)) fnil)))))))
    (fseq (fset [2] (f1 (fop2 gSub (fvar 1) (fc (.int 2)))))
    (fseq (fset [3] (f1 (fcall none F_word_for (fcons (fcall none F_law_led_web (fcons (fvar 1) (fcons (flc [14] (firng1 (fcons (fvar 2) fnil)) (bname 14) ftrue (fop2 gMod (fop2 gAdd (fvar 14) (fc (.int 1))) (fvar 2))) fnil))) fnil))))
    (fseq (fifS (fnotT (fbool (fcall none (F_law_same 5) (fcons (fcall none F_sheet_settles (fcons (fvar 1) (fcons (fvar 3) fnil))) (fcons (ftup (fcons (fc (.int 1)) (fcons (fvar 2) fnil))) fnil))))) (fret (fc (.bool false))) fskip)
    (fseq (fset [4] (f1 (flc [14] (firng1 (fcons (fop2 gFdiv (fvar 2) (fc (.int 2))) fnil)) (bname 14) ftrue (ftup (fcons (fop2 gMul (fc (.int 2)) (fvar 14)) (fcons (fop2 gAdd (fop2 gMul (fc (.int 2)) (fvar 14)) (fc (.int 1))) fnil))))))
    (fseq (fset [5] (f1 (fcall none F_law_with (fcons (fvar 1) (fcons (flc [15, 16] (fiseq (fvar 4)) (btup 2 (bcons (bname 15) (bcons (bname 16) bnil))) ftrue (ftup (fcons (fop2 gMod (fop2 gAdd (fvar 15) (fc (.int 1))) (fvar 2)) (fcons (fop2 gMod (fop2 gAdd (fvar 16) (fc (.int 1))) (fvar 2)) fnil)))) fnil)))))
    (fseq (fset [6, 7] (fcons (fcall none F_law_with (fcons (fvar 1) (fcons (fvar 4) fnil))) (fcons (fcall none F_law_with (fcons (fvar 1) (fcons (flc [14] (firng1 (fcons (fop2 gFdiv (fvar 2) (fc (.int 2))) fnil)) (bname 14) ftrue (ftup (fcons (fvar 14) (fcons (fop2 gAdd (fvar 14) (fop2 gFdiv (fvar 2) (fc (.int 2)))) fnil)))) fnil))) fnil)))
    (fseq (fset [8] (f1 (fif (fbool (fop2 gEq (fvar 2) (fc (.int 2)))) (fc (.int 1)) (fc (.int 2)))))
    (fseq (fset [9] (f1 (flc [17] (fiseq (ftup (fcons (fvar 6) (fcons (fvar 7) (fcons (fvar 5) fnil))))) (bname 17) ftrue (fcall none F_settles (fcons (fvar 17) (fcons (fvar 3) fnil))))))
    (fseq (fifS (fnotT (fbool (fcall none (F_law_same 5) (fcons (fvar 9) (fcons (flst (fcons (ftup (fcons (fc (.int 0)) (fcons (fvar 8) fnil))) (fcons (ftup (fcons (fc (.int 0)) (fcons (fc (.int 1)) fnil))) (fcons (ftup (fcons (fc (.int 0)) (fcons (fvar 8) fnil))) fnil)))) fnil))))) (fret (fc (.bool false))) fskip)
    (fseq (ffor (fiseq (ftup (fcons (fc (.int 0)) (fcons (fc (.int 1)) (fcons (fc (.int 2)) (fcons (fop2 gPow (fc (.int 10)) (fc (.int 12))) (fcons (fop2 gSub (fop2 gPow (fc (.int 10)) (fc (.int 12))) (fc (.int 1))) (fcons (fcall (some 0) (F_law_take 3) (fcons (fvar 0) (fcons (fop2 gPow (fc (.int 10)) (fc (.int 12))) fnil))) fnil)))))))) (bname 10) (fseq (fset [11] (f1 (flst (fcons (fif (fbool (fop2 gEq (fop2 gMod (fvar 10) (fc (.int 2))) (fc (.int 0)))) (fvar 6) (fvar 5)) (fcons (fvar 7) fnil)))))
    (fifS (fbool (fop2 gNe (flc [17] (fiseq (ftup (fcons (fvar 6) (fcons (fvar 7) fnil)))) (bname 17) ftrue (fcall none F_repeated (fcons (fvar 17) (fcons (fvar 3) (fcons (fvar 10) fnil))))) (fvar 11))) (fret (fc (.bool false))) fskip)))
    (fseq (fset [9] (f1 (flst (fcons (fcall none F_first_time (fcons (fvar 6) (fcons (fvar 3) (fcons (fc (.int 0)) (fcons (fc (.int 1)) fnil))))) (fcons (fcall none F_first_time (fcons (fvar 6) (fcons (fvar 3) (fcons (fc (.int 2)) (fcons (fc (.int 3)) fnil))))) (fcons (fcall none F_first_time (fcons (fvar 6) (fcons (fvar 3) (fcons (fc (.int 0)) (fcons (fc (.int 2)) fnil))))) fnil))))))
    (fseq (fifS (fnotT (fbool (fcall none (F_law_same 5) (fcons (fop2 gAdd (fvar 9) (flst (fcons (fcall none F_first_time (fcons (fvar 6) (fcons (fvar 3) (fcons (fc (.int 2)) (fcons (fop2 gSub (fvar 1) (fc (.int 1))) fnil))))) fnil))) (fcons (flst (fcons (fc (.int 0)) (fcons (fc (.int 0)) (fcons (fc .none) (fcons (fif (fbool (fop2 gEq (fvar 2) (fc (.int 2)))) (fc (.int 0)) (fc (.int 1))) fnil))))) fnil))))) (fret (fc (.bool false))) fskip)
    (fseq (fset [12] (f1 (flc [14] (firng1 (fcons (fop2 gFdiv (fvar 1) (fc (.int 2))) fnil)) (bname 14) ftrue (ftup (fcons (fop2 gMul (fc (.int 2)) (fvar 14)) (fcons (fop2 gAdd (fop2 gMul (fc (.int 2)) (fvar 14)) (fc (.int 1))) fnil))))))
    (fseq (fset [13] (f1 (fopA gTuple (fcons (flc [18] (firng1 (fcons (fvar 1) fnil)) (bname 18) ftrue (fop2 gSub (fop2 gSub (fvar 1) (fc (.int 1))) (fvar 18))) fnil))))
    (fseq (fset [9] (f1 (flst (fcons (fcall none F_settles (fcons (fvar 13) (fcons (fvar 12) fnil))) (fcons (fcall none F_sheet_settles (fcons (fvar 1) (fcons (fvar 12) fnil))) (fcons (fcall none F_repeated (fcons (fvar 13) (fcons (fvar 12) (fcons (fop2 gPow (fc (.int 10)) (fc (.int 12))) fnil)))) fnil))))))
    (fret (fand (fcall none (F_law_same 5) (fcons (fvar 9) (fcons (flst (fcons (ftup (fcons (fc (.int 1)) (fcons (fc (.int 1)) fnil))) (fcons (ftup (fcons (fc (.int 1)) (fcons (fc (.int 1)) fnil))) (fcons (fvar 6) fnil)))) fnil))) (fop2 gEq (fcall none F_first_time (fcons (fvar 13) (fcons (fvar 12) (fcons (fc (.int 0)) (fcons (fc (.int 1)) fnil))))) (fc (.int 1)))))))))))))))))))))
def F_law : FS := toF 1 2 none (fret (fopA gAll (fcons (flc [1] (firng1 (fcons (fop2 gAdd (fc (.int 1)) (fopA gMin (fcons (fc (.int 3)) (fcons (fopA gLen (fcons (fvar 0) fnil)) fnil)))) fnil)) (bname 1) ftrue (fcallF F_law_right (fcall none F_law_box (fcons (fvar 0) (fcons (fvar 1) fnil))))) fnil)))
def H_pure_loops (FX : FS) : FS := toF 1 4 none (fseq (fset [1] (f1 (fcall none F_people_of (fcons (fvar 0) fnil))))
    (fret (flc [2] (fiseq (fcall none FX (fcons (fvar 0) fnil))) (bname 2) (fandT (fbool (fop2 gGt (fopA gLen (fcons (fvar 2) fnil)) (fc (.int 1)))) (fbool (fopA gAll (fcons (flc [3] (fiseq (fvar 2)) (bname 3) ftrue (fop2 gGe (fop2 gIx (fvar 0) (fvar 3)) (fvar 1))) fnil)))) (fvar 2))))
def H_fewest_calls (FX : FS) : FS := toF 1 1 none (fseq (fdrop (fcall none F_look_word_of (fcons (fvar 0) fnil)))
    (fret (fop2 gAdd (fop2 gSub (fcall none F_people_of (fcons (fvar 0) fnil)) (fopA gLen (fcons (fcall none FX (fcons (fvar 0) fnil)) fnil))) (fop2 gMul (fc (.int 2)) (fopA gLen (fcons (fcall none (H_pure_loops FX) (fcons (fvar 0) fnil)) fnil))))))
def H_before_pair (FX : FS) : FS := toF 2 7 none (fseq (fset [2, 3] (fcons (fcall none F_people_of (fcons (fvar 0) fnil)) (fcons (fcall none (H_pure_loops FX) (fcons (fvar 0) fnil)) fnil)))
    (fseq (fasg (btup 2 (bcons (bname 4) (bcons (bname 5) bnil))) (fvar 1))
    (fseq (fifS (forT (fbool (fop2 gGt (fopA gLen (fcons (fcall none F_lower_pairs (fcons (fvar 0) fnil)) fnil)) (fc (.int 1)))) (fbool (fop2 gEq (fopA gLen (fcons (fvar 3) fnil)) (fc (.int 0))))) (fret (fcall none F_with_joins (fcons (fvar 0) (fcons (flst (fcons (ftup (fcons (fvar 4) (fcons (fop2 gAdd (fvar 2) (fvar 4)) fnil))) (fcons (ftup (fcons (fvar 5) (fcons (fop2 gAdd (fvar 2) (fvar 5)) fnil))) fnil))) fnil)))) fskip)
    (fseq (fset [6] (f1 (fop2 gIx (fop2 gIx (fvar 3) (fc (.int 0))) (fc (.int 0)))))
    (fret (fcall none F_with_joins (fcons (fvar 0) (fcons (flst (fcons (ftup (fcons (fop2 gAdd (fvar 2) (fvar 5)) (fcons (fop2 gIx (fvar 0) (fvar 6)) fnil))) (fcons (ftup (fcons (fop2 gAdd (fvar 2) (fvar 4)) (fcons (fvar 6) fnil))) fnil))) fnil))))))))
def H_before_call (FX : FS) : FS := toF 2 5 none (fseq (fset [2] (f1 (fcall none F_people_of (fcons (fvar 0) fnil))))
    (fseq (fasg (btup 2 (bcons (bname 3) (bcons (bname 4) bnil))) (fvar 1))
    (fseq (fifS (fbool (fop2 gEq (fop2 gIx (fvar 0) (fvar 3)) (fvar 4))) (fret (fcall none (H_before_pair FX) (fcons (fvar 0) (fcons (fvar 1) fnil)))) fskip)
    (fseq (fifS (fandT (fbool (fop2 gLt (fop2 gIx (fvar 0) (fvar 4)) (fvar 2))) (fbool (fop2 gGe (fop2 gIx (fvar 0) (fvar 3)) (fvar 2)))) (fset [3, 4] (fcons (fvar 4) (fcons (fvar 3) fnil))) fskip)
    (fret (fcall none F_with_joins (fcons (fvar 0) (fcons (flst (fcons (ftup (fcons (fop2 gAdd (fvar 2) (fvar 3)) (fcons (fop2 gIx (fvar 0) (fvar 4)) fnil))) (fcons (ftup (fcons (fop2 gAdd (fvar 2) (fvar 4)) (fcons (fvar 4) fnil))) fnil))) fnil))))))))
def H_word_for (FX : FS) : FS := toF 1 4 none (fseq (fset [1, 2] (fcons (flst fnil) (fcons (fopA gTuple (fcons (fvar 0) fnil)) fnil)))
    (fseq (ffor (firng1 (fcons (fcall none (H_fewest_calls FX) (fcons (fvar 0) fnil)) fnil)) (bname 3) (fseq (fdrop (fmeth 1 gAppend (fcons (fop2 gIx (fcall none F_lower_pairs (fcons (fvar 2) fnil)) (fc (.int 0))) fnil)))
    (fset [2] (f1 (fcall none (H_before_call FX) (fcons (fvar 2) (fcons (fop2 gIx (fvar 1) (fop1 gNeg (fc (.int 1)))) fnil)))))))
    (fret (fop1 gRev (fvar 1)))))
/-- the loops of a sheet, by the plain function where the sheet is a closed one -/
def nat? : D → Option Nat
  | .int (.ofNat k) => some k
  | _ => none
def nats? : List D → Option (List Nat)
  | [] => some []
  | d :: ds => match nat? d, nats? ds with
    | some k, some l => some (k :: l)
    | _, _ => none
theorem nats_spec : ∀ {ds : List D} {l : List Nat}, nats? ds = some l → ds = Ns l
  | [], l, h => by cases h; rfl
  | d :: ds, l, h => by
    unfold nats? at h
    split at h
    · rename_i k m e1 e2
      cases h
      rw [nats_spec e2]
      unfold nat? at e1
      split at e1
      · cases e1; rfl
      · cases e1
    · cases h
def jb (s : List Nat) : Bool := s.length % 2 == 0 && (decide (s.length ≤ 120) && (List.range s.length).all fun x => decide (gt s x < s.length) && (decide (gt s x ≠ x) && decide (gt s (gt s x) = x)))
theorem jb_spec {s : List Nat} (h : jb s = true) : Joined (2 * (s.length / 2)) s ∧ s.length / 2 ≤ 60 := by
  unfold jb at h
  simp only [Bool.and_eq_true, beq_iff_eq, decide_eq_true_eq, List.all_eq_true, List.mem_range] at h
  obtain ⟨h1, h2, h3⟩ := h
  have e : 2 * (s.length / 2) = s.length := by omega
  refine ⟨⟨e.symm, fun x hx => ?_⟩, by omega⟩
  rw [e] at hx ⊢
  obtain ⟨a, b, c⟩ := h3 x hx
  refine ⟨gt s x, gt_some hx, a, b, ?_⟩
  rw [gt_some a, c]
def good? (a : List D) : Option (List Nat) := match a with
  | [.tuple ds] => match nats? ds with
    | some s => if jb s then some s else none
    | none => none
  | _ => none
def FL : FS := fun a => match good? a with
  | some s => some ⟨true, .list (Ts (lps (s.length / 2) s (s.length / 2))), []⟩
  | none => F_loops a
theorem FL_eq : FL = F_loops := by
  funext a
  unfold FL
  split
  · rename_i s e
    unfold good? at e
    split at e
    · rename_i ds
      split at e
      · rename_i s' e1
        split at e
        · rename_i hj
          cases e
          rw [nats_spec e1]
          obtain ⟨J, hn⟩ := jb_spec hj
          exact (loops_w Sq.t J hn).symm
        · cases e
      · cases e
    · cases e
  · rfl
theorem wf_H : F_word_for = H_word_for FL := by rw [FL_eq]; rfl
def pr? : D → Option (Nat × Nat)
  | .tuple [.int (.ofNat a), .int (.ofNat b)] => some (a, b)
  | _ => none
def prs? : List D → Option (List (Nat × Nat))
  | [] => some []
  | d :: ds => match pr? d, prs? ds with
    | some k, some l => some (k :: l)
    | _, _ => none
theorem prs_spec : ∀ {ds : List D} {l : List (Nat × Nat)}, prs? ds = some l → ds = Ps l
  | [], l, h => by cases h; rfl
  | d :: ds, l, h => by
    unfold prs? at h
    split at h
    · rename_i k m e1 e2
      cases h
      rw [prs_spec e2]
      unfold pr? at e1
      split at e1
      · cases e1; rfl
      · cases e1
    · cases h
def jp (s : List Nat) : Bool := decide (0 < s.length) && (decide (s.length ≤ 1000) && (List.range s.length).all fun x => decide (gt s x < s.length) && (decide (gt s x ≠ x) && decide (gt s (gt s x) = x)))
theorem jp_spec {s : List Nat} (h : jp s = true) : Joined s.length s ∧ 0 < s.length ∧ s.length ≤ 1000 := by
  unfold jp at h
  simp only [Bool.and_eq_true, decide_eq_true_eq, List.all_eq_true, List.mem_range] at h
  obtain ⟨h1, h2, h3⟩ := h
  exact ⟨Joined.mk' rfl fun x hx => h3 x hx, h1, h2⟩
def cb (n : Nat) (ps : List (Nat × Nat)) : Bool := ps.all fun p => decide (p.1 < p.2) && decide (p.2 < n)
theorem cb_spec {n : Nat} {ps : List (Nat × Nat)} (h : cb n ps = true) : CallsOk n ps := by
  unfold cb at h
  simp only [List.all_eq_true, Bool.and_eq_true, decide_eq_true_eq] at h
  exact fun c hc => h c hc
def goodR? (a : List D) : Option (List Nat) := match a with
  | [.tuple ds, .list cs, .int (.ofNat m)] => match nats? ds, prs? cs with
    | some p, some ps => if jp p && (cb p.length ps && (decide (1 ≤ m) && (decide (m < 2 ^ 60) && decide (rptP p ps 2 = rptP p ps 1)))) then some (rptP p ps 1) else none
    | _, _ => none
  | _ => none
def FR : FS := fun a => match goodR? a with
  | some s => some ⟨false, .tuple (Ns s), []⟩
  | none => F_repeated a
theorem rptP_one {p : List Nat} {ps : List (Nat × Nat)} (h : rptP p ps 2 = rptP p ps 1) : ∀ m, rptP p ps (m + 1) = rptP p ps 1
  | 0 => rfl
  | m + 1 => by
    show ledP (rptP p ps (m + 1)) ps = _
    rw [rptP_one h m]
    exact h
theorem FR_eq : FR = F_repeated := by
  funext a
  unfold FR
  split
  · rename_i s e
    unfold goodR? at e
    split at e
    · rename_i ds cs m
      split at e
      · rename_i p ps e1 e2
        split at e
        · rename_i hj
          cases e
          simp only [Bool.and_eq_true, decide_eq_true_eq] at hj
          obtain ⟨h1, h2, h3, h4, h5⟩ := hj
          rw [nats_spec e1, prs_spec e2]
          obtain ⟨J, n0, hn⟩ := jp_spec h1
          obtain ⟨k, rfl⟩ : ∃ k, m = k + 1 := ⟨m - 1, by omega⟩
          have c := repeated_w (A := .tuple (Ns p)) (B := .list (Ps ps)) .t Wd.ps J (cb_spec h2) n0 hn h4
          rw [rptP_one h5 k] at c
          exact c.symm
        · cases e
      · cases e
    · cases e
  · rfl
def t2 : Fst := (fseq (fset [9] (f1 (flst (fcons (fcall none F_first_time (fcons (fvar 6) (fcons (fvar 3) (fcons (fc (.int 0)) (fcons (fc (.int 1)) fnil))))) (fcons (fcall none F_first_time (fcons (fvar 6) (fcons (fvar 3) (fcons (fc (.int 2)) (fcons (fc (.int 3)) fnil))))) (fcons (fcall none F_first_time (fcons (fvar 6) (fcons (fvar 3) (fcons (fc (.int 0)) (fcons (fc (.int 2)) fnil))))) fnil))))))
    (fseq (fifS (fnotT (fbool (fcall none (F_law_same 5) (fcons (fop2 gAdd (fvar 9) (flst (fcons (fcall none F_first_time (fcons (fvar 6) (fcons (fvar 3) (fcons (fc (.int 2)) (fcons (fop2 gSub (fvar 1) (fc (.int 1))) fnil))))) fnil))) (fcons (flst (fcons (fc (.int 0)) (fcons (fc (.int 0)) (fcons (fc .none) (fcons (fif (fbool (fop2 gEq (fvar 2) (fc (.int 2)))) (fc (.int 0)) (fc (.int 1))) fnil))))) fnil))))) (fret (fc (.bool false))) fskip)
    (fseq (fset [12] (f1 (flc [14] (firng1 (fcons (fop2 gFdiv (fvar 1) (fc (.int 2))) fnil)) (bname 14) ftrue (ftup (fcons (fop2 gMul (fc (.int 2)) (fvar 14)) (fcons (fop2 gAdd (fop2 gMul (fc (.int 2)) (fvar 14)) (fc (.int 1))) fnil))))))
    (fseq (fset [13] (f1 (fopA gTuple (fcons (flc [18] (firng1 (fcons (fvar 1) fnil)) (bname 18) ftrue (fop2 gSub (fop2 gSub (fvar 1) (fc (.int 1))) (fvar 18))) fnil))))
    (fseq (fset [9] (f1 (flst (fcons (fcall none F_settles (fcons (fvar 13) (fcons (fvar 12) fnil))) (fcons (fcall none F_sheet_settles (fcons (fvar 1) (fcons (fvar 12) fnil))) (fcons (fcall none F_repeated (fcons (fvar 13) (fcons (fvar 12) (fcons (fop2 gPow (fc (.int 10)) (fc (.int 12))) fnil)))) fnil))))))
    (fret (fand (fcall none (F_law_same 5) (fcons (fvar 9) (fcons (flst (fcons (ftup (fcons (fc (.int 1)) (fcons (fc (.int 1)) fnil))) (fcons (ftup (fcons (fc (.int 1)) (fcons (fc (.int 1)) fnil))) (fcons (fvar 6) fnil)))) fnil))) (fop2 gEq (fcall none F_first_time (fcons (fvar 13) (fcons (fvar 12) (fcons (fc (.int 0)) (fcons (fc (.int 1)) fnil))))) (fc (.int 1))))))))))
def t1 : Fst := (fseq (ffor (fiseq (ftup (fcons (fc (.int 0)) (fcons (fc (.int 1)) (fcons (fc (.int 2)) (fcons (fop2 gPow (fc (.int 10)) (fc (.int 12))) (fcons (fop2 gSub (fop2 gPow (fc (.int 10)) (fc (.int 12))) (fc (.int 1))) (fcons (fcall (some 0) (F_law_take 3) (fcons (fvar 0) (fcons (fop2 gPow (fc (.int 10)) (fc (.int 12))) fnil))) fnil)))))))) (bname 10) (fseq (fset [11] (f1 (flst (fcons (fif (fbool (fop2 gEq (fop2 gMod (fvar 10) (fc (.int 2))) (fc (.int 0)))) (fvar 6) (fvar 5)) (fcons (fvar 7) fnil)))))
    (fifS (fbool (fop2 gNe (flc [17] (fiseq (ftup (fcons (fvar 6) (fcons (fvar 7) fnil)))) (bname 17) ftrue (fcall none F_repeated (fcons (fvar 17) (fcons (fvar 3) (fcons (fvar 10) fnil))))) (fvar 11))) (fret (fc (.bool false))) fskip)))
    t2)
def hd (FW : FS) (K : Fst) : Fst := (fseq (fset [2] (f1 (fop2 gSub (fvar 1) (fc (.int 2)))))
    (fseq (fset [3] (f1 (fcall none FW (fcons (fcall none F_law_led_web (fcons (fvar 1) (fcons (flc [14] (firng1 (fcons (fvar 2) fnil)) (bname 14) ftrue (fop2 gMod (fop2 gAdd (fvar 14) (fc (.int 1))) (fvar 2))) fnil))) fnil))))
    (fseq (fifS (fnotT (fbool (fcall none (F_law_same 5) (fcons (fcall none F_sheet_settles (fcons (fvar 1) (fcons (fvar 3) fnil))) (fcons (ftup (fcons (fc (.int 1)) (fcons (fvar 2) fnil))) fnil))))) (fret (fc (.bool false))) fskip)
    (fseq (fset [4] (f1 (flc [14] (firng1 (fcons (fop2 gFdiv (fvar 2) (fc (.int 2))) fnil)) (bname 14) ftrue (ftup (fcons (fop2 gMul (fc (.int 2)) (fvar 14)) (fcons (fop2 gAdd (fop2 gMul (fc (.int 2)) (fvar 14)) (fc (.int 1))) fnil))))))
    (fseq (fset [5] (f1 (fcall none F_law_with (fcons (fvar 1) (fcons (flc [15, 16] (fiseq (fvar 4)) (btup 2 (bcons (bname 15) (bcons (bname 16) bnil))) ftrue (ftup (fcons (fop2 gMod (fop2 gAdd (fvar 15) (fc (.int 1))) (fvar 2)) (fcons (fop2 gMod (fop2 gAdd (fvar 16) (fc (.int 1))) (fvar 2)) fnil)))) fnil)))))
    (fseq (fset [6, 7] (fcons (fcall none F_law_with (fcons (fvar 1) (fcons (fvar 4) fnil))) (fcons (fcall none F_law_with (fcons (fvar 1) (fcons (flc [14] (firng1 (fcons (fop2 gFdiv (fvar 2) (fc (.int 2))) fnil)) (bname 14) ftrue (ftup (fcons (fvar 14) (fcons (fop2 gAdd (fvar 14) (fop2 gFdiv (fvar 2) (fc (.int 2)))) fnil)))) fnil))) fnil)))
    (fseq (fset [8] (f1 (fif (fbool (fop2 gEq (fvar 2) (fc (.int 2)))) (fc (.int 1)) (fc (.int 2)))))
    (fseq (fset [9] (f1 (flc [17] (fiseq (ftup (fcons (fvar 6) (fcons (fvar 7) (fcons (fvar 5) fnil))))) (bname 17) ftrue (fcall none F_settles (fcons (fvar 17) (fcons (fvar 3) fnil))))))
    (fseq (fifS (fnotT (fbool (fcall none (F_law_same 5) (fcons (fvar 9) (fcons (flst (fcons (ftup (fcons (fc (.int 0)) (fcons (fvar 8) fnil))) (fcons (ftup (fcons (fc (.int 0)) (fcons (fc (.int 1)) fnil))) (fcons (ftup (fcons (fc (.int 0)) (fcons (fvar 8) fnil))) fnil)))) fnil))))) (fret (fc (.bool false))) fskip)
    K)))))))))
theorem hd_eq : F_law_right = toF 1 19 (some 0) (fseq (fset [1] (f1 (fop2 gAdd (fc (.int 4)) (fop2 gMul (fc (.int 2)) (fcall (some 0) (F_law_take 3) (fcons (fvar 0) (fcons (fc (.int 9)) fnil)))))))
    (hd F_word_for t1)) := rfl
def t2h (FY : FS) : Fst := (fseq (fset [9] (f1 (flst (fcons (fcall none F_first_time (fcons (fvar 6) (fcons (fvar 3) (fcons (fc (.int 0)) (fcons (fc (.int 1)) fnil))))) (fcons (fcall none F_first_time (fcons (fvar 6) (fcons (fvar 3) (fcons (fc (.int 2)) (fcons (fc (.int 3)) fnil))))) (fcons (fcall none F_first_time (fcons (fvar 6) (fcons (fvar 3) (fcons (fc (.int 0)) (fcons (fc (.int 2)) fnil))))) fnil))))))
    (fseq (fifS (fnotT (fbool (fcall none (F_law_same 5) (fcons (fop2 gAdd (fvar 9) (flst (fcons (fcall none F_first_time (fcons (fvar 6) (fcons (fvar 3) (fcons (fc (.int 2)) (fcons (fop2 gSub (fvar 1) (fc (.int 1))) fnil))))) fnil))) (fcons (flst (fcons (fc (.int 0)) (fcons (fc (.int 0)) (fcons (fc .none) (fcons (fif (fbool (fop2 gEq (fvar 2) (fc (.int 2)))) (fc (.int 0)) (fc (.int 1))) fnil))))) fnil))))) (fret (fc (.bool false))) fskip)
    (fseq (fset [12] (f1 (flc [14] (firng1 (fcons (fop2 gFdiv (fvar 1) (fc (.int 2))) fnil)) (bname 14) ftrue (ftup (fcons (fop2 gMul (fc (.int 2)) (fvar 14)) (fcons (fop2 gAdd (fop2 gMul (fc (.int 2)) (fvar 14)) (fc (.int 1))) fnil))))))
    (fseq (fset [13] (f1 (fopA gTuple (fcons (flc [18] (firng1 (fcons (fvar 1) fnil)) (bname 18) ftrue (fop2 gSub (fop2 gSub (fvar 1) (fc (.int 1))) (fvar 18))) fnil))))
    (fseq (fset [9] (f1 (flst (fcons (fcall none F_settles (fcons (fvar 13) (fcons (fvar 12) fnil))) (fcons (fcall none F_sheet_settles (fcons (fvar 1) (fcons (fvar 12) fnil))) (fcons (fcall none FY (fcons (fvar 13) (fcons (fvar 12) (fcons (fop2 gPow (fc (.int 10)) (fc (.int 12))) fnil)))) fnil))))))
    (fret (fand (fcall none (F_law_same 5) (fcons (fvar 9) (fcons (flst (fcons (ftup (fcons (fc (.int 1)) (fcons (fc (.int 1)) fnil))) (fcons (ftup (fcons (fc (.int 1)) (fcons (fc (.int 1)) fnil))) (fcons (fvar 6) fnil)))) fnil))) (fop2 gEq (fcall none F_first_time (fcons (fvar 13) (fcons (fvar 12) (fcons (fc (.int 0)) (fcons (fc (.int 1)) fnil))))) (fc (.int 1))))))))))
theorem t2h_eq : t2 = t2h F_repeated := rfl
def tour : Nat → List (Nat × Nat)
  | 0 => [(0, 1), (1, 2), (1, 3), (0, 1)]
  | 1 => [(0, 1), (1, 2), (1, 5), (1, 4), (1, 3), (0, 1)]
  | 2 => [(0, 1), (1, 2), (1, 7), (1, 6), (1, 5), (1, 4), (1, 3), (0, 1)]
  | 3 => [(0, 1), (1, 2), (1, 9), (1, 8), (1, 7), (1, 6), (1, 5), (1, 4), (1, 3), (0, 1)]
  | 4 => [(0, 1), (1, 2), (1, 11), (1, 10), (1, 9), (1, 8), (1, 7), (1, 6), (1, 5), (1, 4), (1, 3), (0, 1)]
  | 5 => [(0, 1), (1, 2), (1, 13), (1, 12), (1, 11), (1, 10), (1, 9), (1, 8), (1, 7), (1, 6), (1, 5), (1, 4), (1, 3), (0, 1)]
  | 6 => [(0, 1), (1, 2), (1, 15), (1, 14), (1, 13), (1, 12), (1, 11), (1, 10), (1, 9), (1, 8), (1, 7), (1, 6), (1, 5), (1, 4), (1, 3), (0, 1)]
  | 7 => [(0, 1), (1, 2), (1, 17), (1, 16), (1, 15), (1, 14), (1, 13), (1, 12), (1, 11), (1, 10), (1, 9), (1, 8), (1, 7), (1, 6), (1, 5), (1, 4), (1, 3), (0, 1)]
  | 8 => [(0, 1), (1, 2), (1, 19), (1, 18), (1, 17), (1, 16), (1, 15), (1, 14), (1, 13), (1, 12), (1, 11), (1, 10), (1, 9), (1, 8), (1, 7), (1, 6), (1, 5), (1, 4), (1, 3), (0, 1)]
  | _ => []
def start : Nat → List Nat
  | 0 => [1, 0, 3, 2]
  | 1 => [1, 0, 3, 2, 5, 4]
  | 2 => [1, 0, 3, 2, 5, 4, 7, 6]
  | 3 => [1, 0, 3, 2, 5, 4, 7, 6, 9, 8]
  | 4 => [1, 0, 3, 2, 5, 4, 7, 6, 9, 8, 11, 10]
  | 5 => [1, 0, 3, 2, 5, 4, 7, 6, 9, 8, 11, 10, 13, 12]
  | 6 => [1, 0, 3, 2, 5, 4, 7, 6, 9, 8, 11, 10, 13, 12, 15, 14]
  | 7 => [1, 0, 3, 2, 5, 4, 7, 6, 9, 8, 11, 10, 13, 12, 15, 14, 17, 16]
  | 8 => [1, 0, 3, 2, 5, 4, 7, 6, 9, 8, 11, 10, 13, 12, 15, 14, 17, 16, 19, 18]
  | _ => []
def shifted : Nat → List Nat
  | 0 => [1, 0, 3, 2]
  | 1 => [1, 0, 5, 4, 3, 2]
  | 2 => [1, 0, 7, 4, 3, 6, 5, 2]
  | 3 => [1, 0, 9, 4, 3, 6, 5, 8, 7, 2]
  | 4 => [1, 0, 11, 4, 3, 6, 5, 8, 7, 10, 9, 2]
  | 5 => [1, 0, 13, 4, 3, 6, 5, 8, 7, 10, 9, 12, 11, 2]
  | 6 => [1, 0, 15, 4, 3, 6, 5, 8, 7, 10, 9, 12, 11, 14, 13, 2]
  | 7 => [1, 0, 17, 4, 3, 6, 5, 8, 7, 10, 9, 12, 11, 14, 13, 16, 15, 2]
  | 8 => [1, 0, 19, 4, 3, 6, 5, 8, 7, 10, 9, 12, 11, 14, 13, 16, 15, 18, 17, 2]
  | _ => []
def across : Nat → List Nat
  | 0 => [1, 0, 3, 2]
  | 1 => [1, 0, 4, 5, 2, 3]
  | 2 => [1, 0, 5, 6, 7, 2, 3, 4]
  | 3 => [1, 0, 6, 7, 8, 9, 2, 3, 4, 5]
  | 4 => [1, 0, 7, 8, 9, 10, 11, 2, 3, 4, 5, 6]
  | 5 => [1, 0, 8, 9, 10, 11, 12, 13, 2, 3, 4, 5, 6, 7]
  | 6 => [1, 0, 9, 10, 11, 12, 13, 14, 15, 2, 3, 4, 5, 6, 7, 8]
  | 7 => [1, 0, 10, 11, 12, 13, 14, 15, 16, 17, 2, 3, 4, 5, 6, 7, 8, 9]
  | 8 => [1, 0, 11, 12, 13, 14, 15, 16, 17, 18, 19, 2, 3, 4, 5, 6, 7, 8, 9, 10]
  | _ => []
def near : Nat → List (Nat × Nat)
  | 0 => [(0, 1)]
  | 1 => [(0, 1), (2, 3)]
  | 2 => [(0, 1), (2, 3), (4, 5)]
  | 3 => [(0, 1), (2, 3), (4, 5), (6, 7)]
  | 4 => [(0, 1), (2, 3), (4, 5), (6, 7), (8, 9)]
  | 5 => [(0, 1), (2, 3), (4, 5), (6, 7), (8, 9), (10, 11)]
  | 6 => [(0, 1), (2, 3), (4, 5), (6, 7), (8, 9), (10, 11), (12, 13)]
  | 7 => [(0, 1), (2, 3), (4, 5), (6, 7), (8, 9), (10, 11), (12, 13), (14, 15)]
  | 8 => [(0, 1), (2, 3), (4, 5), (6, 7), (8, 9), (10, 11), (12, 13), (14, 15), (16, 17)]
  | _ => []
def per : Nat → Nat
  | 0 => 1
  | _ => 2
abbrev e0 (B : List D) (r : Nat) : En := [bxs (.list B), sh (N (4 + 2 * r))] ++ List.replicate 17 none
abbrev e1 (B : List D) (r : Nat) : En := [bxs (.list B), sh (N (4 + 2 * r)), sh (N (2 + 2 * r)), sh (.list (Ps (tour r))), sh (.list (Ps (near r))), sh (.tuple (Ns (shifted r))), sh (.tuple (Ns (start r))), sh (.tuple (Ns (across r))), sh (N (per r)), ow (.list [pr 0 (per r), pr 0 1, pr 0 (per r)])] ++ List.replicate 9 none
abbrev e2 (B : List D) (r : Nat) (x y : Option (Fl × D)) : En := [bxs (.list B), sh (N (4 + 2 * r)), sh (N (2 + 2 * r)), sh (.list (Ps (tour r))), sh (.list (Ps (near r))), sh (.tuple (Ns (shifted r))), sh (.tuple (Ns (start r))), sh (.tuple (Ns (across r))), sh (N (per r)), ow (.list [pr 0 (per r), pr 0 1, pr 0 (per r)]), x, y] ++ List.replicate 7 none
end K62
set_option Elab.async false
set_option linter.all false
set_option maxRecDepth 100000
set_option maxHeartbeats 0
namespace K62
open PySem PySem.Spec PyProof.Rows L2 DL
open Sh hiding F_law_take F_law_strewn F_law_same F_law_box F_law_read F_law_with
open Sv
open Lp hiding F_law_led_web
theorem hh0 (B : List D) (K : Fst) : hd (H_word_for FL) K (e0 B 0) = K (e1 B 0) := by kernel_rfl
theorem tt0 (B : List D) (x y : Option (Fl × D)) : chkT (t2h FR (e2 B 0 x y)) = some B := by kernel_rfl
theorem qq0 : rptP (start 0) (tour 0) 1 = shifted 0 ∧ rptP (start 0) (tour 0) 2 = start 0 ∧ rptP (across 0) (tour 0) 1 = across 0 := by decide +kernel
theorem jj0 : Joined 4 (start 0) ∧ Joined 4 (across 0) ∧ CallsOk 4 (tour 0) := by
  refine ⟨⟨rfl, by decide +kernel⟩, ⟨rfl, by decide +kernel⟩, by unfold CallsOk; decide +kernel⟩
theorem hh1 (B : List D) (K : Fst) : hd (H_word_for FL) K (e0 B 1) = K (e1 B 1) := by kernel_rfl
theorem tt1 (B : List D) (x y : Option (Fl × D)) : chkT (t2h FR (e2 B 1 x y)) = some B := by kernel_rfl
theorem qq1 : rptP (start 1) (tour 1) 1 = shifted 1 ∧ rptP (start 1) (tour 1) 2 = start 1 ∧ rptP (across 1) (tour 1) 1 = across 1 := by decide +kernel
theorem jj1 : Joined 6 (start 1) ∧ Joined 6 (across 1) ∧ CallsOk 6 (tour 1) := by
  refine ⟨⟨rfl, by decide +kernel⟩, ⟨rfl, by decide +kernel⟩, by unfold CallsOk; decide +kernel⟩
theorem hh2 (B : List D) (K : Fst) : hd (H_word_for FL) K (e0 B 2) = K (e1 B 2) := by kernel_rfl
theorem tt2 (B : List D) (x y : Option (Fl × D)) : chkT (t2h FR (e2 B 2 x y)) = some B := by kernel_rfl
theorem qq2 : rptP (start 2) (tour 2) 1 = shifted 2 ∧ rptP (start 2) (tour 2) 2 = start 2 ∧ rptP (across 2) (tour 2) 1 = across 2 := by decide +kernel
theorem jj2 : Joined 8 (start 2) ∧ Joined 8 (across 2) ∧ CallsOk 8 (tour 2) := by
  refine ⟨⟨rfl, by decide +kernel⟩, ⟨rfl, by decide +kernel⟩, by unfold CallsOk; decide +kernel⟩
theorem hh3 (B : List D) (K : Fst) : hd (H_word_for FL) K (e0 B 3) = K (e1 B 3) := by kernel_rfl
theorem tt3 (B : List D) (x y : Option (Fl × D)) : chkT (t2h FR (e2 B 3 x y)) = some B := by kernel_rfl
theorem qq3 : rptP (start 3) (tour 3) 1 = shifted 3 ∧ rptP (start 3) (tour 3) 2 = start 3 ∧ rptP (across 3) (tour 3) 1 = across 3 := by decide +kernel
theorem jj3 : Joined 10 (start 3) ∧ Joined 10 (across 3) ∧ CallsOk 10 (tour 3) := by
  refine ⟨⟨rfl, by decide +kernel⟩, ⟨rfl, by decide +kernel⟩, by unfold CallsOk; decide +kernel⟩
theorem hh4 (B : List D) (K : Fst) : hd (H_word_for FL) K (e0 B 4) = K (e1 B 4) := by kernel_rfl
theorem tt4 (B : List D) (x y : Option (Fl × D)) : chkT (t2h FR (e2 B 4 x y)) = some B := by kernel_rfl
theorem qq4 : rptP (start 4) (tour 4) 1 = shifted 4 ∧ rptP (start 4) (tour 4) 2 = start 4 ∧ rptP (across 4) (tour 4) 1 = across 4 := by decide +kernel
theorem jj4 : Joined 12 (start 4) ∧ Joined 12 (across 4) ∧ CallsOk 12 (tour 4) := by
  refine ⟨⟨rfl, by decide +kernel⟩, ⟨rfl, by decide +kernel⟩, by unfold CallsOk; decide +kernel⟩
theorem hh5 (B : List D) (K : Fst) : hd (H_word_for FL) K (e0 B 5) = K (e1 B 5) := by kernel_rfl
theorem tt5 (B : List D) (x y : Option (Fl × D)) : chkT (t2h FR (e2 B 5 x y)) = some B := by kernel_rfl
theorem qq5 : rptP (start 5) (tour 5) 1 = shifted 5 ∧ rptP (start 5) (tour 5) 2 = start 5 ∧ rptP (across 5) (tour 5) 1 = across 5 := by decide +kernel
theorem jj5 : Joined 14 (start 5) ∧ Joined 14 (across 5) ∧ CallsOk 14 (tour 5) := by
  refine ⟨⟨rfl, by decide +kernel⟩, ⟨rfl, by decide +kernel⟩, by unfold CallsOk; decide +kernel⟩
end K62
set_option Elab.async false
set_option linter.all false
set_option maxRecDepth 100000
set_option maxHeartbeats 0
namespace K62
open PySem PySem.Spec PyProof.Rows L2 DL
open Sh hiding F_law_take F_law_strewn F_law_same F_law_box F_law_read F_law_with
open Sv
open Lp hiding F_law_led_web
theorem hh6 (B : List D) (K : Fst) : hd (H_word_for FL) K (e0 B 6) = K (e1 B 6) := by kernel_rfl
theorem tt6 (B : List D) (x y : Option (Fl × D)) : chkT (t2h FR (e2 B 6 x y)) = some B := by kernel_rfl
theorem qq6 : rptP (start 6) (tour 6) 1 = shifted 6 ∧ rptP (start 6) (tour 6) 2 = start 6 ∧ rptP (across 6) (tour 6) 1 = across 6 := by decide +kernel
theorem jj6 : Joined 16 (start 6) ∧ Joined 16 (across 6) ∧ CallsOk 16 (tour 6) := by
  refine ⟨⟨rfl, by decide +kernel⟩, ⟨rfl, by decide +kernel⟩, by unfold CallsOk; decide +kernel⟩
theorem hh7 (B : List D) (K : Fst) : hd (H_word_for FL) K (e0 B 7) = K (e1 B 7) := by kernel_rfl
theorem tt7 (B : List D) (x y : Option (Fl × D)) : chkT (t2h FR (e2 B 7 x y)) = some B := by kernel_rfl
theorem qq7 : rptP (start 7) (tour 7) 1 = shifted 7 ∧ rptP (start 7) (tour 7) 2 = start 7 ∧ rptP (across 7) (tour 7) 1 = across 7 := by decide +kernel
theorem jj7 : Joined 18 (start 7) ∧ Joined 18 (across 7) ∧ CallsOk 18 (tour 7) := by
  refine ⟨⟨rfl, by decide +kernel⟩, ⟨rfl, by decide +kernel⟩, by unfold CallsOk; decide +kernel⟩
end K62
set_option Elab.async false
set_option linter.all false
set_option maxRecDepth 100000
set_option maxHeartbeats 0
namespace K62
open PySem PySem.Spec PyProof.Rows L2 DL
open Sh hiding F_law_take F_law_strewn F_law_same F_law_box F_law_read F_law_with
open Sv
open Lp hiding F_law_led_web
theorem hh8 (B : List D) (K : Fst) : hd (H_word_for FL) K (e0 B 8) = K (e1 B 8) := by kernel_rfl
theorem tt8 (B : List D) (x y : Option (Fl × D)) : chkT (t2h FR (e2 B 8 x y)) = some B := by kernel_rfl
theorem qq8 : rptP (start 8) (tour 8) 1 = shifted 8 ∧ rptP (start 8) (tour 8) 2 = start 8 ∧ rptP (across 8) (tour 8) 1 = across 8 := by decide +kernel
theorem jj8 : Joined 20 (start 8) ∧ Joined 20 (across 8) ∧ CallsOk 20 (tour 8) := by
  refine ⟨⟨rfl, by decide +kernel⟩, ⟨rfl, by decide +kernel⟩, by unfold CallsOk; decide +kernel⟩
end K62
set_option Elab.async false
set_option linter.all false
set_option maxRecDepth 100000
set_option maxHeartbeats 4000000
namespace K62
open PySem PySem.Spec PyProof.Rows L2 DL
open Sh hiding F_law_take F_law_strewn F_law_same F_law_box F_law_read F_law_with
open Sv
open Lp
local macro_rules | `(tactic| infer_instance) => `(tactic| first
  | with_reducible apply st_seq
  | ((with_reducible apply cl_toF); (simp +decide only [en0, enA, List.length_cons, List.length_nil, List.cons_append, List.nil_append, List.replicate, ↓reduceIte, Nat.reduceAdd, Nat.reduceSub, Nat.zero_add] <;> exact rfl); exact rfl)
  | with_reducible apply st_set
  | with_reducible apply st_ph
  | with_reducible apply pst_set
  | ((with_reducible apply psetQ); (first | (simp [allFrL]; done) | (simp [allFrL]; omega) | (simp [allFrL, Ts]; omega)); exact rfl; exact rfl; (try dsimp only [List.set_cons_zero, List.set_cons_succ, frOf_f, frOf_t, List.cons_append, List.nil_append]))
  | ((with_reducible apply pst_if); exact rfl)
  | ((with_reducible apply pst_mut); exact rfl; (simp; done); decide)
  | with_reducible apply pst_end
  | with_reducible apply st_asg
  | with_reducible apply st_if
  | with_reducible apply st_ret
  | with_reducible apply st_drop
  | with_reducible apply st_skip
  | with_reducible apply st_retN
  | with_reducible apply exa_nil
  | with_reducible apply exa_cons
  | with_reducible apply exa_f1
  | with_reducible apply exa_perm
  | with_reducible apply exa_app
  | ((with_reducible apply ex_var_sh); exact rfl)
  | ((with_reducible apply ex_var_al); exact rfl; decide)
  | with_reducible apply ex_fc0 | with_reducible apply ex_fc1 | with_reducible apply ex_fc2 | with_reducible apply ex_fc3 | with_reducible apply ex_fc4 | with_reducible apply ex_fc5 | with_reducible apply ex_fc6 | with_reducible apply ex_fc7 | with_reducible apply ex_fc8 | with_reducible apply ex_fc9 | with_reducible apply ex_fc10 | with_reducible apply ex_fc11 | with_reducible apply ex_fc12 | with_reducible apply ex_fc14 | with_reducible apply ex_fc16 | with_reducible apply ex_fc18 | with_reducible apply ex_fc20 | with_reducible apply ex_fc21 | with_reducible apply ex_fc26 | with_reducible apply ex_fc30 | with_reducible apply ex_fc40 | with_reducible apply ex_fc41 | with_reducible apply ex_fc50 | with_reducible apply ex_fc60 | with_reducible apply ex_fc61 | with_reducible apply ex_fc80 | with_reducible apply ex_fc100 | with_reducible apply ex_fc300 | with_reducible apply ex_fc400
  | with_reducible apply ex_fc
  | with_reducible apply ex_op2
  | with_reducible apply ex_opA
  | with_reducible apply ex_op1
  | with_reducible apply ex_tup
  | with_reducible apply ex_lst
  | with_reducible apply ex_fdctT
  | with_reducible apply ex_fdctK
  | ((with_reducible apply exg_putQ); exact rfl; decide)
  | ((with_reducible apply op2_it); exact rfl; exact rfl; with_reducible exact nin_Td)
  | ((with_reducible apply opA_it); exact rfl; with_reducible exact len_Td)
  | with_reducible apply ex_call
  | with_reducible apply ex_lc
  | with_reducible apply ex_rep
  | ((with_reducible apply repQ_2); exact rfl)
  | ((with_reducible apply repQ_3); exact rfl)
  | ((with_reducible apply repAQ_P); exact rfl; decide; exact rfl; omega; omega)
  | ((with_reducible apply repQ_N); exact rfl; omega)
  | ((with_reducible apply nrm); (try simp only [filt_true, map_Ns, map_Ps, map_Ps', List.map_id_fun', List.map_id']))
  | ((with_reducible apply ex_meth); exact rfl; decide)
  | ((with_reducible apply methQ); exact rfl; exact rfl; exact rfl; decide; (first | ((with_reducible apply gAppend_N); (first | omega | (simp only [List.length_set, List.length_append, List.length_map, List.length_range, List.length_replicate, List.length_cons, List.length_nil, Ns_len, Ps_len]; omega) | (simp; omega))) | ((with_reducible apply gAppend_d); (first | omega | (simp only [List.length_set, List.length_append, List.length_map, List.length_range, List.length_replicate, List.length_cons, List.length_nil, Ns_len, Ps_len]; omega) | (simp; omega))) | with_reducible assumption); (try dsimp only [List.set_cons_zero, List.set_cons_succ, frOf_f, frOf_t, List.cons_append, List.nil_append]))
  | ((with_reducible apply exg_subQ); exact rfl; decide)
  | ((with_reducible apply subQ_N); exact rfl; exact rfl; decide; (first | omega | (simp only [List.length_set, List.length_append, List.length_map, List.length_range, List.length_replicate]; omega) | (simp; omega)); (try dsimp only [List.set_cons_zero, List.set_cons_succ, frOf_f, frOf_t, List.cons_append, List.nil_append]))
  | with_reducible apply ex_slice
  | with_reducible apply ex_chain
  | with_reducible apply ex_lrg1
  | with_reducible apply ex_lrg2
  | with_reducible apply ex_and
  | with_reducible apply ex_or
  | with_reducible apply ex_not
  | with_reducible apply ex_if
  | with_reducible apply ext_bool
  | with_reducible apply ext_not
  | with_reducible apply ext_and
  | with_reducible apply ext_andI
  | with_reducible apply ext_orI
  | with_reducible apply ex_andJ
  | with_reducible apply ex_repA
  | with_reducible apply ext_or
  | with_reducible apply ext_true
  | ((with_reducible apply setQ); exact rfl; exact rfl; exact rfl; (try dsimp only [List.set_cons_zero, List.set_cons_succ, frOf_f, frOf_t, List.cons_append, List.nil_append]))
  | ((with_reducible apply seqQ); exact rfl; exact rfl; (try dsimp only [List.set_cons_zero, List.set_cons_succ, frOf_f, frOf_t, List.cons_append, List.nil_append]))
  | ((with_reducible apply asgQ); exact rfl; exact rfl)
  | with_reducible apply boolQ
  | ((with_reducible apply op2_it); exact rfl; exact rfl; first | with_reducible exact gAdd_N | ((with_reducible apply gSub_N) <;> omega) | ((with_reducible apply gSub_N); (apply_assumption -symm -exfalso (transparency := .reducible) only [*] <;> first | with_reducible assumption | omega)) | ((with_reducible apply gMul_N) <;> omega) | ((with_reducible apply gFdiv_N) <;> omega) | ((with_reducible apply gMod_N) <;> omega) | with_reducible exact gLt_N | with_reducible exact gLe_N | with_reducible exact gGt_N | with_reducible exact gGe_N | with_reducible exact gEq_N | with_reducible exact gNe_N | ((with_reducible apply gIx_T) <;> omega) | ((with_reducible apply gIx_L) <;> omega) | ((with_reducible apply gIx_T); (apply_assumption -symm -exfalso (transparency := .reducible) only [*] <;> first | with_reducible assumption | omega)) | ((with_reducible apply gIx_L); (apply_assumption -symm -exfalso (transparency := .reducible) only [*] <;> first | with_reducible assumption | omega)) | with_reducible exact gIx_pr0 | with_reducible exact gIx_p0 | with_reducible exact gIx_p1 | with_reducible exact gIx_pr1 | with_reducible exact gIx_l0 | with_reducible exact gIx_l1 | with_reducible exact gEq_T | with_reducible exact gNe_T | with_reducible exact gEq_L | with_reducible exact gNe_L | with_reducible exact gNe_Lnil | with_reducible exact gIs_non | with_reducible exact gNis_non | with_reducible exact gNis_B | with_reducible exact gIs_B | with_reducible exact gEq_str | with_reducible exact gEq_non | with_reducible exact gNe_str | with_reducible exact gAdd_I | with_reducible exact gSub_I | with_reducible exact gEq_I | with_reducible exact gNe_I | with_reducible exact gLt_I | with_reducible exact gLe_I | with_reducible exact gGt_I | with_reducible exact gGe_I | with_reducible exact gEq_B | with_reducible exact gNe_B | with_reducible assumption)
  | ((with_reducible apply op2_it); exact rfl; exact rfl; (refine Sq.ix (by with_reducible assumption) ?_); first | omega | with_reducible assumption)
  | ((with_reducible apply op2_it); exact rfl; exact rfl; with_reducible exact gIx_last)
  | ((with_reducible apply op2_it); exact rfl; exact rfl; with_reducible exact gIx_lastd)
  | ((with_reducible apply op2_it); exact rfl; exact rfl; with_reducible exact gIx_last2)
  | ((with_reducible apply op2_it); exact rfl; exact rfl; (with_reducible apply gIx_Lz); first | with_reducible assumption | (simp; done) | (apply_assumption -symm -exfalso (transparency := .reducible) only [*] <;> first | with_reducible assumption | omega))
  | ((with_reducible apply op2_catTN); exact rfl; exact rfl; (simp; omega))
  | ((with_reducible apply op2_catLN); exact rfl; exact rfl; (simp; omega))
  | ((with_reducible apply op2_nl); exact rfl; exact rfl; (first | ((with_reducible apply gAdd_L) <;> (first | omega | (simp; done) | (simp; omega))) | with_reducible assumption); (try dsimp only [List.cons_append, List.nil_append]))
  | ((with_reducible apply op1_it); exact rfl; first | with_reducible exact gNeg_N | ((with_reducible apply gIsi_x); first | exact rfl | with_reducible assumption) | ((with_reducible apply gIsi2_x); first | exact rfl | with_reducible assumption))
  | ((with_reducible apply opA_it); exact rfl; first | with_reducible exact gLen_T | with_reducible exact gLen_L | with_reducible exact gLen_l | with_reducible exact gLen_t | with_reducible exact gTuple_T | with_reducible exact gMax_N | with_reducible exact gMin_N | with_reducible exact gInt_B | with_reducible exact gAll_c | with_reducible exact gAll_m | with_reducible exact gAny_m | with_reducible assumption)
  | ((with_reducible apply opA_it); exact rfl; exact Sq.len (by with_reducible assumption))
  | ((with_reducible apply opA_nl); exact rfl; exact Sq.lst (by with_reducible assumption))
  | ((with_reducible apply opA_tupSq); exact rfl; with_reducible assumption)
  | ((with_reducible apply opA_nl); exact rfl; first | with_reducible exact gList_L | with_reducible exact gList_T | with_reducible exact gList_pr)
  | ((with_reducible apply opA_nt); exact rfl; first | with_reducible exact gTuple_L)
  | ((with_reducible apply callQ_sh); exact rfl; with_reducible assumption; exact rfl; (try dsimp only [List.set_cons_zero, List.set_cons_succ, frOf_f, frOf_t, List.cons_append, List.nil_append]))
  | ((with_reducible apply callQ_fr); exact rfl; with_reducible assumption; exact rfl; (try dsimp only [List.set_cons_zero, List.set_cons_succ, frOf_f, frOf_t, List.cons_append, List.nil_append]))
  | ((with_reducible apply callQ_sh); exact rfl; (apply_assumption -symm -exfalso (transparency := .reducible) only [*] <;> first | with_reducible assumption | omega); exact rfl; (try dsimp only [List.set_cons_zero, List.set_cons_succ, frOf_f, frOf_t, List.cons_append, List.nil_append]))
  | ((with_reducible apply callQ_fr); exact rfl; (apply_assumption -symm -exfalso (transparency := .reducible) only [*] <;> first | with_reducible assumption | omega); exact rfl; (try dsimp only [List.set_cons_zero, List.set_cons_succ, frOf_f, frOf_t, List.cons_append, List.nil_append]))
  | ((with_reducible apply chQ); exact rfl; exact rfl; first | with_reducible exact gLt_N | with_reducible exact gLe_N | with_reducible exact gGt_N | with_reducible exact gGe_N | with_reducible exact gEq_N | with_reducible exact gNe_N)
  | ((with_reducible apply retQ); exact rfl; exact rfl)
  | ((with_reducible apply sqQ_Sq); exact rfl; with_reducible assumption; exact rfl; (try dsimp only [List.set_cons_zero, List.set_cons_succ, frOf_f, frOf_t, List.cons_append, List.nil_append]))
  | ((with_reducible apply sqQ_t); exact rfl; exact rfl; (try dsimp only [List.set_cons_zero, List.set_cons_succ, frOf_f, frOf_t, List.cons_append, List.nil_append]))
  | ((with_reducible apply sqQ_l); exact rfl; exact rfl; (try dsimp only [List.set_cons_zero, List.set_cons_succ, frOf_f, frOf_t, List.cons_append, List.nil_append]))
  | ((with_reducible apply datQ); exact rfl)
  | with_reducible apply st_for
  | with_reducible apply ex_callB'
  | ((with_reducible apply callB); exact rfl; exact rfl; decide; exact rfl; exact rfl)
  | ((with_reducible apply callB_strewn); exact rfl; exact rfl; exact rfl; decide; exact rfl)
  | ((with_reducible apply callB_atom); exact rfl; exact rfl; decide; exact rfl)
  | ((with_reducible apply sl_Tlo); exact rfl)
  | ((with_reducible apply sl_Thi); exact rfl)
  | ((with_reducible apply sl_Llo); exact rfl)
  | ((with_reducible apply sl_Lhi); exact rfl)
  | ((with_reducible apply sl_Plo); exact rfl)
  | ((with_reducible apply sl_llo); exact rfl)
  | ((with_reducible apply sl_lhi); exact rfl)
  | ((with_reducible apply lcQ); exact rfl; (first | exact enN _ | exact rfl); (first | omega | (simp; omega) | (simp; done)); (intro x hx; (try simp only [List.mem_range] at hx)))
  | ((with_reducible apply tstQ); exact rfl)
  | exact eltQ rfl rfl rfl
  | ((with_reducible apply backQ); exact rfl)
  | with_reducible apply exi_seq
  | with_reducible apply exi_enum
  | with_reducible apply exi_rng1
  | with_reducible apply exi_rng2
  | ((with_reducible apply rg1); omega)
  | ((with_reducible apply rg2); omega; omega)
  | with_reducible apply exo_none
  | with_reducible apply exo_some
  | ((with_reducible apply intQ); exact rfl)
  | ((with_reducible apply lr1N); exact rfl; omega)
  | ((with_reducible apply lr2N); exact rfl; exact rfl; omega; omega)
  | ((with_reducible apply exg_name); (try dsimp only [wipeE, List.set_cons_zero, List.set_cons_succ, frOf_f, frOf_t, List.cons_append, List.nil_append]))
  | with_reducible apply exg_pr
  | ((with_reducible apply exg_tupT); exact rfl)
  | ((with_reducible apply exg_tupL); exact rfl)
  | ((with_reducible apply exgs_nil); try dsimp only [List.set_cons_zero, List.set_cons_succ, frOf_f, frOf_t, List.cons_append, List.nil_append])
  | with_reducible apply exgs_cons
  | ((with_reducible apply two_t); exact rfl)
  | ((with_reducible apply two_f); exact rfl)
  | ((with_reducible apply two_t); (simp only [decide_eq_true_eq, decide_eq_false_iff_not, Bool.not_eq_true', Bool.not_eq_false', Bool.and_eq_true, Bool.or_eq_true, Bool.and_eq_false_iff, Bool.or_eq_false_iff, eq_self, and_self, not_true_eq_false, not_false_eq_true] <;> omega))
  | ((with_reducible apply two_f); (simp only [decide_eq_true_eq, decide_eq_false_iff_not, Bool.not_eq_true', Bool.not_eq_false', Bool.and_eq_true, Bool.or_eq_true, Bool.and_eq_false_iff, Bool.or_eq_false_iff, eq_self, and_self, not_true_eq_false, not_false_eq_true] <;> omega))
  | ((with_reducible apply two_d) <;> intro _)
  | ((with_reducible apply two_n) <;> intro _)
  | ((with_reducible apply two_g) <;> (intro h; (try simp only [Bool.and_eq_true, Bool.or_eq_true, Bool.and_eq_false_iff, Bool.or_eq_false_iff, decide_eq_true_eq, decide_eq_false_iff_not, Bool.not_eq_true', Bool.not_eq_false'] at h)))
  | ((with_reducible apply imp); (intro h; (try simp only [decide_eq_true_eq, decide_eq_false_iff_not, Bool.not_eq_true', Bool.not_eq_false'] at h)))
  | ((with_reducible apply impF); (intro h; (try simp only [decide_eq_true_eq, decide_eq_false_iff_not, Bool.not_eq_true', Bool.not_eq_false'] at h)))
  | with_reducible apply samQ
  | with_reducible apply eqQ
  | with_reducible exact ⟨rfl, rfl⟩
  | with_reducible exact rfl)
theorem facts : ∀ r, r < 9 → (∀ (B : List D) (K : Fst), hd F_word_for K (e0 B r) = K (e1 B r)) ∧ (∀ (B : List D) (x y : Option (Fl × D)), chkT (t2 (e2 B r x y)) = some B) ∧
    (rptP (start r) (tour r) 1 = shifted r ∧ rptP (start r) (tour r) 2 = start r ∧ rptP (across r) (tour r) 1 = across r) ∧ (Joined (4 + 2 * r) (start r) ∧ Joined (4 + 2 * r) (across r) ∧ CallsOk (4 + 2 * r) (tour r)) := fun r hr => match r, hr with
  | 0, _ => ⟨fun B K => wf_H ▸ hh0 B K, fun B x y => t2h_eq ▸ FR_eq ▸ tt0 B x y, qq0, jj0⟩
  | 1, _ => ⟨fun B K => wf_H ▸ hh1 B K, fun B x y => t2h_eq ▸ FR_eq ▸ tt1 B x y, qq1, jj1⟩
  | 2, _ => ⟨fun B K => wf_H ▸ hh2 B K, fun B x y => t2h_eq ▸ FR_eq ▸ tt2 B x y, qq2, jj2⟩
  | 3, _ => ⟨fun B K => wf_H ▸ hh3 B K, fun B x y => t2h_eq ▸ FR_eq ▸ tt3 B x y, qq3, jj3⟩
  | 4, _ => ⟨fun B K => wf_H ▸ hh4 B K, fun B x y => t2h_eq ▸ FR_eq ▸ tt4 B x y, qq4, jj4⟩
  | 5, _ => ⟨fun B K => wf_H ▸ hh5 B K, fun B x y => t2h_eq ▸ FR_eq ▸ tt5 B x y, qq5, jj5⟩
  | 6, _ => ⟨fun B K => wf_H ▸ hh6 B K, fun B x y => t2h_eq ▸ FR_eq ▸ tt6 B x y, qq6, jj6⟩
  | 7, _ => ⟨fun B K => wf_H ▸ hh7 B K, fun B x y => t2h_eq ▸ FR_eq ▸ tt7 B x y, qq7, jj7⟩
  | 8, _ => ⟨fun B K => wf_H ▸ hh8 B K, fun B x y => t2h_eq ▸ FR_eq ▸ tt8 B x y, qq8, jj8⟩
  | n + 9, h => absurd h (by omega)
theorem rptP_turns {p u : List Nat} {ps : List (Nat × Nat)} (h1 : rptP p ps 1 = u) (h2 : rptP p ps 2 = p) : ∀ m, rptP p ps m = if m % 2 = 0 then p else u
  | 0 => rfl
  | 1 => h1
  | m + 2 => by
    have ih := rptP_turns h1 h2 m
    have e1 : ledP p ps = u := h1
    have e2 : ledP u ps = p := by rw [← e1]; exact h2
    show ledP (ledP (rptP p ps m) ps) ps = _
    rw [ih, Nat.add_mod_right]
    split
    · rw [e1, e2]
    · rw [e2, e1]
theorem rptP_stays {p : List Nat} {ps : List (Nat × Nat)} (h1 : rptP p ps 1 = p) : ∀ m, rptP p ps m = p
  | 0 => rfl
  | m + 1 => by
    show ledP (rptP p ps m) ps = p
    rw [rptP_stays h1 m]
    exact h1
theorem st_eq {s s' : Fst} {ρ ρ' : En} {Nx B C : En → Prop} {R : RV → En → Prop} (e : s ρ = s' ρ') (k : Sh.St s' ρ' Nx R B C) : Sh.St s ρ Nx R B C := by
  obtain ⟨o, e1, q⟩ := k
  exact ⟨o, e.trans e1, q⟩
theorem neT2_self {a b : List Nat} : gNe (.list [.tuple (Ns a), .tuple (Ns b)]) (.list [.tuple (Ns a), .tuple (Ns b)]) = some (.it (.bool false)) := by
  refine neL_self ?_
  simp [SeqAt.shaped, PyData.canLay0, PyData.canLayAll0, PyData.depth, PyData.depthAll, ns_lay, ns_depth]
theorem right_ok : PartOk 100000 F_law_right := partOk_of fun k bx hb hk => by
  have p12 : gPow (N 10) (N 12) = some (.it (N 1000000000000)) := gPow_N (by omega) (by omega)
  rw [hd_eq]
  repeat' (first | infer_instance | fail)
  refine take2_w hb (by omega) (by omega) (by omega) fun r bx1 hr hb1 => ?_
  obtain ⟨f1, f2, ⟨q1, q2, q3⟩, J1, J2, hc⟩ := facts r hr
  repeat' (first | infer_instance | fail)
  refine st_eq (f1 bx1 t1) ?_
  simp only [e1, List.replicate, List.cons_append, List.nil_append]
  unfold t1
  repeat' (first | infer_instance | fail)
  refine take_wide2_w hb1 (by omega) (by omega) (by omega) fun r2 bx2 hr2 hb2 => ?_
  repeat' (first | ((fail_if_success (with_reducible apply lcQ)); infer_instance) | fail)
  have l0 : [N 0, N 1, N 2, N 1000000000000, N 999999999999, N r2] = [0, 1, 2, 1000000000000, 999999999999, r2].map N := rfl
  refine forQ (l := [0, 1, 2, 1000000000000, 999999999999, r2]) (enc := N) (fun pre ρ => ∃ (x y : Option (Fl × D)), ρ = e2 bx2 r x y) l0 ⟨_, _, rfl⟩ ?_ ?_
  · rintro pre x post ρ e ⟨x9, x10, rfl⟩
    have hx : x ≤ 1000000000000 := by
      have hm' : x ∈ [0, 1, 2, 1000000000000, 999999999999, r2] := by rw [e]; simp
      simp only [List.mem_cons, List.not_mem_nil, or_false] at hm'
      rcases hm' with rfl | rfl | rfl | rfl | rfl | rfl <;> omega
    have d1 := repeated_w (A := .tuple (Ns (start r))) (B := .list (Ps (tour r))) .t Wd.ps J1 hc (by omega) (by omega) (m := x) (by omega)
    have d2 := repeated_w (A := .tuple (Ns (across r))) (B := .list (Ps (tour r))) .t Wd.ps J2 hc (by omega) (by omega) (m := x) (by omega)
    simp only [e2, List.replicate, List.cons_append, List.nil_append]
    repeat' (first | ((fail_if_success (with_reducible apply lcQ)); infer_instance) | fail)
    all_goals rename_i hp
    · have n1 : gNe (.list [.tuple (Ns (rptP (start r) (tour r) x)), .tuple (Ns (rptP (across r) (tour r) x))]) (.list [.tuple (Ns (start r)), .tuple (Ns (across r))]) = some (.it (.bool false)) := by
        rw [rptP_turns q1 q2, rptP_stays q3, if_pos hp]
        exact neT2_self
      refine lcQ (l := [start r, across r]) (enc := fun l => .tuple (Ns l)) (g := fun l => .tuple (Ns (rptP l (tour r) x))) (p := fun _ => true) rfl rfl (by simp) (fun l hl => ?_) ?_
      · simp only [List.mem_cons, List.not_mem_nil, or_false] at hl
        rcases hl with rfl | rfl
        · repeat' (first | infer_instance | fail)
        · repeat' (first | infer_instance | fail)
      · repeat' (first | infer_instance | fail)
        refine op2_it rfl rfl n1 ?_
        repeat' (first | infer_instance | fail)
        exact ⟨_, _, rfl⟩
    · have n1 : gNe (.list [.tuple (Ns (rptP (start r) (tour r) x)), .tuple (Ns (rptP (across r) (tour r) x))]) (.list [.tuple (Ns (shifted r)), .tuple (Ns (across r))]) = some (.it (.bool false)) := by
        rw [rptP_turns q1 q2, rptP_stays q3, if_neg hp]
        exact neT2_self
      refine lcQ (l := [start r, across r]) (enc := fun l => .tuple (Ns l)) (g := fun l => .tuple (Ns (rptP l (tour r) x))) (p := fun _ => true) rfl rfl (by simp) (fun l hl => ?_) ?_
      · simp only [List.mem_cons, List.not_mem_nil, or_false] at hl
        rcases hl with rfl | rfl
        · repeat' (first | infer_instance | fail)
        · repeat' (first | infer_instance | fail)
      · repeat' (first | infer_instance | fail)
        refine op2_it rfl rfl n1 ?_
        repeat' (first | infer_instance | fail)
        exact ⟨_, _, rfl⟩
  · rintro ρ ⟨x9, x10, rfl⟩
    refine st_chk (f2 bx2 x9 x10) fun ρ' e => ?_
    refine retQ rfl ?_ ⟨bx2, rfl, hb2.mono (by omega)⟩
    simp only [bxOf, e]
theorem law_ok : DL.LawOk F_law := lawI_ok right_ok (by omega)
end K62
namespace Lw
open PySem PySem.Spec PyProof.Rows L2 DL
open Sh (F_empty_sheet F_people_of F_lower_pairs F_with_joins F_look_person F_look_call F_look_word F_added F_sheet_of F_ends_from F_result_of F_look_size F_mirrored F_upper_end_from F_followed F_times)
open Lp (F_has_word F_look_word_of F_loop_from F_loops F_pure_loops F_fewest_calls F_before_pair F_before_call F_word_for F_sheet_settles)
open K62 (F_law_with F_law_led_web F_law_right F_law)
open Sv (F_pairings_met F_settles F_law_take F_first_time F_repeated F_law_box)
/-! ### the text -/
def top (i : Nat) : Stmt := PySem.Challenge.pw_partnercall_k62_repetitions_known_by_han.main.body.getD i (.Pass ⟨0, 0, 0, 0⟩)
abbrev s_empty_sheet : Stmt := top 12
abbrev N_empty_sheet : List Str := ["size"]
abbrev P_empty_sheet : List Str := ["size"]
abbrev s_people_of : Stmt := top 11
abbrev N_people_of : List Str := ["sheet"]
abbrev P_people_of : List Str := ["sheet"]
abbrev s_lower_pairs : Stmt := top 16
abbrev N_lower_pairs : List Str := ["sheet", "size", "end", "other"]
abbrev P_lower_pairs : List Str := ["sheet"]
abbrev s_has_word : Stmt := top 34
abbrev N_has_word : List Str := ["sheet"]
abbrev P_has_word : List Str := ["sheet"]
abbrev s_look_word_of : Stmt := top 35
abbrev N_look_word_of : List Str := ["sheet"]
abbrev P_look_word_of : List Str := ["sheet"]
abbrev s_loop_from : Stmt := top 31
abbrev N_loop_from : List Str := ["sheet", "person", "size", "met", "waiting", "here", "end"]
abbrev P_loop_from : List Str := ["sheet", "person"]
abbrev s_loops : Stmt := top 32
abbrev N_loops : List Str := ["sheet", "person"]
abbrev P_loops : List Str := ["sheet"]
abbrev s_pure_loops : Stmt := top 33
abbrev N_pure_loops : List Str := ["sheet", "size", "loop", "person"]
abbrev P_pure_loops : List Str := ["sheet"]
abbrev s_fewest_calls : Stmt := top 36
abbrev N_fewest_calls : List Str := ["sheet"]
abbrev P_fewest_calls : List Str := ["sheet"]
abbrev s_with_joins : Stmt := top 13
abbrev N_with_joins : List Str := ["sheet", "joins", "found", "one", "other"]
abbrev P_with_joins : List Str := ["sheet", "joins"]
abbrev s_before_pair : Stmt := top 37
abbrev N_before_pair : List Str := ["sheet", "pair", "size", "pure", "one", "other", "opened"]
abbrev P_before_pair : List Str := ["sheet", "pair"]
abbrev s_before_call : Stmt := top 38
abbrev N_before_call : List Str := ["sheet", "pair", "size", "one", "other"]
abbrev P_before_call : List Str := ["sheet", "pair"]
abbrev s_word_for : Stmt := top 39
abbrev N_word_for : List Str := ["sheet", "found", "here", "turn"]
abbrev P_word_for : List Str := ["sheet"]
abbrev s_law_with : Stmt := top 45
abbrev N_law_with : List Str := ["_law_size", "_law_pairs", "_law_found", "_law_low", "_law_high"]
abbrev P_law_with : List Str := ["_law_size", "_law_pairs"]
abbrev s_law_led_web : Stmt := top 44
abbrev N_law_led_web : List Str := ["_law_size", "_law_places", "_law_found", "_law_at", "_law_to"]
abbrev P_law_led_web : List Str := ["_law_size", "_law_places"]
abbrev s_law_same : Stmt := top 43
abbrev N_law_same : List Str := ["_law_found", "_law_due", "_law_mine", "_law_its"]
abbrev P_law_same : List Str := ["_law_found", "_law_due"]
def F_law_same : Nat → FS
  | 0 => fun _ => none
  | m + 1 => toF 2 4 none (fseq (fifS (fbool (fop1 (gIsi2 "list" "tuple") (fvar 1))) (fseq (fifS (forT (fbool (fop2 gNe (fop1 (gIsi "list") (fvar 0)) (fop1 (gIsi "list") (fvar 1)))) (fbool (fop2 gNe (fop1 (gIsi "tuple") (fvar 0)) (fop1 (gIsi "tuple") (fvar 1))))) (fret (fc (.bool false))) fskip)
    (fret (fand (fop2 gEq (fopA gLen (fcons (fvar 0) fnil)) (fopA gLen (fcons (fvar 1) fnil))) (fopA gAll (fcons (flc [2, 3] (fizip (fcons (fvar 0) (fcons (fvar 1) fnil))) (btup 2 (bcons (bname 2) (bcons (bname 3) bnil))) ftrue (fcall none (F_law_same m) (fcons (fvar 2) (fcons (fvar 3) fnil)))) fnil))))) fskip)
    (fseq (fifS (forT (fbool (fop2 gIs (fvar 1) (fc .none))) (fbool (fop1 (gIsi "str") (fvar 1)))) (fret (fand (fop2 gEq (fvar 0) (fvar 1)) (fop2 gEq (fop1 (gIsi "str") (fvar 0)) (fop1 (gIsi "str") (fvar 1))))) fskip)
    (fret (fand (fop1 (gIsi "int") (fvar 0)) (fand (fop2 gEq (fop1 (gIsi "bool") (fvar 0)) (fop1 (gIsi "bool") (fvar 1))) (fop2 gEq (fvar 0) (fvar 1)))))))
abbrev s_look_person : Stmt := top 5
abbrev N_look_person : List Str := ["size", "person"]
abbrev P_look_person : List Str := ["size", "person"]
abbrev s_look_call : Stmt := top 8
abbrev N_look_call : List Str := ["size", "call", "person"]
abbrev P_look_call : List Str := ["size", "call"]
abbrev s_look_word : Stmt := top 9
abbrev N_look_word : List Str := ["size", "word", "call"]
abbrev P_look_word : List Str := ["size", "word"]
abbrev s_added : Stmt := top 14
abbrev N_added : List Str := ["sheet", "call", "size", "one", "other"]
abbrev P_added : List Str := ["sheet", "call"]
abbrev s_sheet_of : Stmt := top 15
abbrev N_sheet_of : List Str := ["size", "word", "found", "call"]
abbrev P_sheet_of : List Str := ["size", "word"]
abbrev s_ends_from : Stmt := top 22
abbrev N_ends_from : List Str := ["sheet", "pairing", "person", "size", "found"]
abbrev P_ends_from : List Str := ["sheet", "pairing", "person"]
abbrev s_result_of : Stmt := top 23
abbrev N_result_of : List Str := ["sheet", "pairing", "size", "person"]
abbrev P_result_of : List Str := ["sheet", "pairing"]
abbrev s_pairings_met : Stmt := top 26
abbrev N_pairings_met : List Str := ["pairing", "word", "sheet", "here", "met"]
abbrev P_pairings_met : List Str := ["pairing", "word"]
abbrev s_settles : Stmt := top 27
abbrev N_settles : List Str := ["pairing", "word", "met", "begin"]
abbrev P_settles : List Str := ["pairing", "word"]
abbrev s_law_take : Stmt := top 42
abbrev N_law_take : List Str := ["_law_box_here", "_law_below", "_law_found", "_law_once"]
abbrev P_law_take : List Str := ["_law_box_here", "_law_below"]
abbrev s_first_time : Stmt := top 29
abbrev N_first_time : List Str := ["pairing", "word", "person", "partner", "met", "found", "there", "many"]
abbrev P_first_time : List Str := ["pairing", "word", "person", "partner"]
abbrev s_look_size : Stmt := top 6
abbrev N_look_size : List Str := ["size", "other_size"]
abbrev P_look_size : List Str := ["size", "other_size"]
abbrev s_mirrored : Stmt := top 20
abbrev N_mirrored : List Str := ["sheet", "size", "end"]
abbrev P_mirrored : List Str := ["sheet"]
abbrev s_upper_end_from : Stmt := top 17
abbrev N_upper_end_from : List Str := ["one", "other", "size", "end", "here"]
abbrev P_upper_end_from : List Str := ["one", "other", "size", "end"]
abbrev s_followed : Stmt := top 18
abbrev N_followed : List Str := ["one", "other", "size", "found", "end", "turned", "there"]
abbrev P_followed : List Str := ["one", "other"]
abbrev s_sheet_settles : Stmt := top 28
abbrev N_sheet_settles : List Str := ["size", "word", "step", "here", "met"]
abbrev P_sheet_settles : List Str := ["size", "word"]
abbrev s_times : Stmt := top 19
abbrev N_times : List Str := ["sheet", "many", "found", "step", "left"]
abbrev P_times : List Str := ["sheet", "many"]
abbrev s_repeated : Stmt := top 25
abbrev N_repeated : List Str := ["pairing", "word", "many"]
abbrev P_repeated : List Str := ["pairing", "word", "many"]
abbrev s_law_right : Stmt := top 46
abbrev N_law_right : List Str := ["_law_box_here", "_law_size", "_law_ring", "_law_tour", "_law_near", "_law_shifted", "_law_start", "_law_across", "_law_period", "_law_told", "_law_often", "_law_due", "_law_calls_due", "_law_tie", "_law_at", "_law_low", "_law_high", "_law_some", "_law_who"]
abbrev P_law_right : List Str := ["_law_box_here"]
abbrev s_law_box : Stmt := top 41
abbrev N_law_box : List Str := ["_law_script", "_law_k", "_law_cell"]
abbrev P_law_box : List Str := ["_law_script", "_law_k"]
abbrev s_law : Stmt := top 47
abbrev N_law : List Str := ["_law_script", "_law_k"]
abbrev P_law : List Str := ["_law_script"]
structure Gb (mg : Str → Option Value) : Prop where
  n_abs : mg "abs" = none
  n_all : mg "all" = none
  n_bool : mg "bool" = none
  n_enumerate : mg "enumerate" = none
  n_int : mg "int" = none
  n_isinstance : mg "isinstance" = none
  n_len : mg "len" = none
  n_list : mg "list" = none
  n_min : mg "min" = none
  n_range : mg "range" = none
  n_sorted : mg "sorted" = none
  n_str : mg "str" = none
  n_tuple : mg "tuple" = none
  n_zip : mg "zip" = none
section
variable {P : Program} {w : World} {K : PySem.W.Frag} {mg : Str → Option Value} {base : Heap}
theorem sc_empty_sheet : FnScope N_empty_sheet P_empty_sheet (defScope s_empty_sheet) := ⟨rfl, rfl, rfl, by decide +kernel, rfl, by decide +kernel, by decide +kernel⟩
theorem ok_empty_sheet {f_empty_sheet : Addr} {d_empty_sheet : FuncData} (A_empty_sheet : At K mg "empty_sheet" s_empty_sheet P_empty_sheet f_empty_sheet d_empty_sheet) (B : Gb mg) : FnG P w K mg base CX0 1 f_empty_sheet d_empty_sheet P_empty_sheet (spD none F_empty_sheet) := okD A_empty_sheet.fn sc_empty_sheet fun cdv A outer s H E hr => by
  have nd := sc_empty_sheet.nd
  have hu64 := hr.units
  have hu65 := room65 hr
  exact (dss_one (ds_ret (de_callTy call_tuple_of opA_tuple rfl B.n_tuple (by decide +kernel) (da_cons (de_bin op_add' op2_add (de_lrg2 rfl rfl B.n_list rfl B.n_range (de_var 0) (de_bin op_mul' op2_mul de_int (de_var 0))) (de_lrg1 rfl rfl B.n_list rfl B.n_range (de_var 0))) da_nil))))
theorem sc_people_of : FnScope N_people_of P_people_of (defScope s_people_of) := ⟨rfl, rfl, rfl, by decide +kernel, rfl, by decide +kernel, by decide +kernel⟩
theorem ok_people_of {f_people_of : Addr} {d_people_of : FuncData} (A_people_of : At K mg "people_of" s_people_of P_people_of f_people_of d_people_of) (B : Gb mg) : FnG P w K mg base CX0 1 f_people_of d_people_of P_people_of (spD none F_people_of) := okD A_people_of.fn sc_people_of fun cdv A outer s H E hr => by
  have nd := sc_people_of.nd
  have hu64 := hr.units
  have hu65 := room65 hr
  exact (dss_one (ds_ret (de_bin op_fdiv' op2_fdiv (de_callB call_len opA_len rfl B.n_len (by decide +kernel) (da_cons (de_var 0) da_nil)) de_int)))
theorem sc_lower_pairs : FnScope N_lower_pairs P_lower_pairs (defScope s_lower_pairs) := ⟨rfl, rfl, rfl, by decide +kernel, rfl, by decide +kernel, by decide +kernel⟩
theorem ok_lower_pairs {f_lower_pairs : Addr} {d_lower_pairs : FuncData} (A_lower_pairs : At K mg "lower_pairs" s_lower_pairs P_lower_pairs f_lower_pairs d_lower_pairs) {f_people_of : Addr} {d_people_of : FuncData} (A_people_of : At K mg "people_of" s_people_of P_people_of f_people_of d_people_of) (ok_people_of : FnG P w K mg base CX0 1 f_people_of d_people_of P_people_of (spD none F_people_of)) (B : Gb mg) : FnG P w K mg base CX0 2 f_lower_pairs d_lower_pairs P_lower_pairs (spD none F_lower_pairs) := okD A_lower_pairs.fn sc_lower_pairs fun cdv A outer s H E hr => by
  have nd := sc_lower_pairs.nd
  have hu64 := hr.units
  have hu65 := room65 hr
  exact (dss_cons (ds_set (i := 1) nd (de_call ok_people_of (hr.mono (by decide)) rfl A_people_of.mg A_people_of.fn.kp A_people_of.bd (da_cons (de_var 0) da_nil)))
    (dss_one (ds_ret (de_lc (own := [("end", 2), ("other", 3)]) rfl nd (di_enum rfl B.n_enumerate (de_slice (de_var 0) (do_some (de_var 1)) do_none)) (blkOk_by (N := N_lower_pairs) (sc := defScope s_lower_pairs) (by decide +kernel)) (fun _ _ _ _ _ => (dg_tup (n := 2) rfl (dgs_cons (dg_name (i := 2) nd) (dgs_cons (dg_name (i := 3) nd) dgs_nil)))) (fun _ _ _ _ _ => (dts_one (dt_cmp op_lt op2_Ib (de_var 2) (de_bin op_sub op2_I (de_var 3) (de_var 1)) (nomark _)))) (fun _ _ _ _ _ => (de_tup (da_cons (de_var 2) (da_cons (de_bin op_sub op2_I (de_var 3) (de_var 1)) da_nil))))))))
theorem sc_has_word : FnScope N_has_word P_has_word (defScope s_has_word) := ⟨rfl, rfl, rfl, by decide +kernel, rfl, by decide +kernel, by decide +kernel⟩
theorem ok_has_word {f_has_word : Addr} {d_has_word : FuncData} (A_has_word : At K mg "has_word" s_has_word P_has_word f_has_word d_has_word) {f_empty_sheet : Addr} {d_empty_sheet : FuncData} (A_empty_sheet : At K mg "empty_sheet" s_empty_sheet P_empty_sheet f_empty_sheet d_empty_sheet) {f_lower_pairs : Addr} {d_lower_pairs : FuncData} (A_lower_pairs : At K mg "lower_pairs" s_lower_pairs P_lower_pairs f_lower_pairs d_lower_pairs) {f_people_of : Addr} {d_people_of : FuncData} (A_people_of : At K mg "people_of" s_people_of P_people_of f_people_of d_people_of) (ok_empty_sheet : FnG P w K mg base CX0 1 f_empty_sheet d_empty_sheet P_empty_sheet (spD none F_empty_sheet)) (ok_lower_pairs : FnG P w K mg base CX0 2 f_lower_pairs d_lower_pairs P_lower_pairs (spD none F_lower_pairs)) (ok_people_of : FnG P w K mg base CX0 1 f_people_of d_people_of P_people_of (spD none F_people_of)) (B : Gb mg) : FnG P w K mg base CX0 3 f_has_word d_has_word P_has_word (spD none F_has_word) := okD A_has_word.fn sc_has_word fun cdv A outer s H E hr => by
  have nd := sc_has_word.nd
  have hu64 := hr.units
  have hu65 := room65 hr
  exact (dss_one (ds_ret (de_or (de_cmp op_gt op2_Ib (de_callB call_len opA_len rfl B.n_len (by decide +kernel) (da_cons (de_call ok_lower_pairs (hr.mono (by decide)) rfl A_lower_pairs.mg A_lower_pairs.fn.kp A_lower_pairs.bd (da_cons (de_var 0) da_nil)) da_nil)) de_int (nomark _)) (de_one (de_cmp (op_eqA hu64) op2_eq (de_callTy call_tuple_of opA_tuple rfl B.n_tuple (by decide +kernel) (da_cons (de_var 0) da_nil)) (de_call ok_empty_sheet (hr.mono (by decide)) rfl A_empty_sheet.mg A_empty_sheet.fn.kp A_empty_sheet.bd (da_cons (de_call ok_people_of (hr.mono (by decide)) rfl A_people_of.mg A_people_of.fn.kp A_people_of.bd (da_cons (de_var 0) da_nil)) da_nil)) (nomark _))))))
theorem sc_look_word_of : FnScope N_look_word_of P_look_word_of (defScope s_look_word_of) := ⟨rfl, rfl, rfl, by decide +kernel, rfl, by decide +kernel, by decide +kernel⟩
theorem ok_look_word_of {f_look_word_of : Addr} {d_look_word_of : FuncData} (A_look_word_of : At K mg "look_word_of" s_look_word_of P_look_word_of f_look_word_of d_look_word_of) {f_has_word : Addr} {d_has_word : FuncData} (A_has_word : At K mg "has_word" s_has_word P_has_word f_has_word d_has_word) (ok_has_word : FnG P w K mg base CX0 3 f_has_word d_has_word P_has_word (spD none F_has_word)) (B : Gb mg) : FnG P w K mg base CX0 4 f_look_word_of d_look_word_of P_look_word_of (spD none F_look_word_of) := okD A_look_word_of.fn sc_look_word_of fun cdv A outer s H E hr => by
  have nd := sc_look_word_of.nd
  have hu64 := hr.units
  have hu65 := room65 hr
  exact (dss_one (ds_if (dt_not (dt_val (de_call ok_has_word (hr.mono (by decide)) rfl A_has_word.mg A_has_word.fn.kp A_has_word.bd (da_cons (de_var 0) da_nil)))) dss_never dss_nil))
theorem sc_loop_from : FnScope N_loop_from P_loop_from (defScope s_loop_from) := ⟨rfl, rfl, rfl, by decide +kernel, rfl, by decide +kernel, by decide +kernel⟩
theorem ok_loop_from {f_loop_from : Addr} {d_loop_from : FuncData} (A_loop_from : At K mg "loop_from" s_loop_from P_loop_from f_loop_from d_loop_from) {f_people_of : Addr} {d_people_of : FuncData} (A_people_of : At K mg "people_of" s_people_of P_people_of f_people_of d_people_of) (ok_people_of : FnG P w K mg base CX0 1 f_people_of d_people_of P_people_of (spD none F_people_of)) (B : Gb mg) : FnG P w K mg base CX0 2 f_loop_from d_loop_from P_loop_from (spD none F_loop_from) := okD A_loop_from.fn sc_loop_from fun cdv A outer s H E hr => by
  have nd := sc_loop_from.nd
  have hu64 := hr.units
  have hu65 := room65 hr
  exact (dss_cons (ds_set (i := 2) nd (de_call ok_people_of (hr.mono (by decide)) rfl A_people_of.mg A_people_of.fn.kp A_people_of.bd (da_cons (de_var 0) da_nil)))
    (dss_cons (ds_par (i := 3) (j := 4) rfl nd (da_cons (de_dct1 (de_var 1) de_bl) (da_cons (de_lst (da_cons (de_var 1) da_nil)) da_nil)))
    (dss_cons (ds_while 1000000 PassesOwn.never (dt_cmp op_gt op2_Ib (de_callB call_len opA_len rfl B.n_len (by decide +kernel) (da_cons (de_var 4) da_nil)) de_int (nomark _)) (dss_cons (ds_set (i := 5) nd (de_meth0 4 PySem.F.slot_list_pop PySem.F.type_list_pop mt_popA opM_pop))
    (dss_one (ds_for PassesOwn.never rfl (di_seq (de_tup (da_cons (de_ix ix_seq op2_ix (de_var 0) (de_var 5)) (da_cons (de_ix ix_seq op2_ix (de_var 0) (de_bin op_add' op2_add (de_var 2) (de_var 5))) da_nil)))) (dg_name (i := 6) nd) (dss_one (ds_if (dt_cmp (op_dnin hu64) op2_dnin (de_bin op_mod op2_mod (de_var 6) (de_var 2)) (de_var 3) (by with_unfolding_all rfl)) (dss_cons (ds_asg de_bl (dg_dput (j := 3) hu64 (de_bin op_mod op2_mod (de_var 6) (de_var 2))))
    (dss_one (ds_expr (de_meth 4 PySem.F.slot_list_append PySem.F.type_list_append mt_append opM_append (da_cons (de_bin op_mod op2_mod (de_var 6) (de_var 2)) da_nil))))) dss_nil))))))
    (dss_one (ds_ret (de_callTy call_tuple_of opA_tuple rfl B.n_tuple (by decide +kernel) (da_cons (de_callBL (call_sortedDI rfl) opA_sortedD rfl B.n_sorted (by decide +kernel) (da_cons (de_var 3) da_nil)) da_nil)))))))
theorem sc_loops : FnScope N_loops P_loops (defScope s_loops) := ⟨rfl, rfl, rfl, by decide +kernel, rfl, by decide +kernel, by decide +kernel⟩
theorem ok_loops {f_loops : Addr} {d_loops : FuncData} (A_loops : At K mg "loops" s_loops P_loops f_loops d_loops) {f_loop_from : Addr} {d_loop_from : FuncData} (A_loop_from : At K mg "loop_from" s_loop_from P_loop_from f_loop_from d_loop_from) {f_people_of : Addr} {d_people_of : FuncData} (A_people_of : At K mg "people_of" s_people_of P_people_of f_people_of d_people_of) (ok_loop_from : FnG P w K mg base CX0 2 f_loop_from d_loop_from P_loop_from (spD none F_loop_from)) (ok_people_of : FnG P w K mg base CX0 1 f_people_of d_people_of P_people_of (spD none F_people_of)) (B : Gb mg) : FnG P w K mg base CX0 3 f_loops d_loops P_loops (spD none F_loops) := okD A_loops.fn sc_loops fun cdv A outer s H E hr => by
  have nd := sc_loops.nd
  have hu64 := hr.units
  have hu65 := room65 hr
  exact (dss_one (ds_ret (de_scS (own := [("person", 1)]) rfl hu65 nd rfl B.n_sorted (by decide +kernel) (di_rng1 rfl B.n_range (da_cons (de_call ok_people_of (hr.mono (by decide)) rfl A_people_of.mg A_people_of.fn.kp A_people_of.bd (da_cons (de_var 0) da_nil)) da_nil)) (blkOk_by (N := N_loops) (sc := defScope s_loops) (by decide +kernel)) (fun _ _ _ _ _ => (dg_name (i := 1) nd)) (fun _ _ _ _ _ => (de_call ok_loop_from (hr.mono (by decide)) rfl A_loop_from.mg A_loop_from.fn.kp A_loop_from.bd (da_cons (de_var 0) (da_cons (de_var 1) da_nil)))))))
theorem sc_pure_loops : FnScope N_pure_loops P_pure_loops (defScope s_pure_loops) := ⟨rfl, rfl, rfl, by decide +kernel, rfl, by decide +kernel, by decide +kernel⟩
theorem ok_pure_loops {f_pure_loops : Addr} {d_pure_loops : FuncData} (A_pure_loops : At K mg "pure_loops" s_pure_loops P_pure_loops f_pure_loops d_pure_loops) {f_people_of : Addr} {d_people_of : FuncData} (A_people_of : At K mg "people_of" s_people_of P_people_of f_people_of d_people_of) {f_loops : Addr} {d_loops : FuncData} (A_loops : At K mg "loops" s_loops P_loops f_loops d_loops) (ok_people_of : FnG P w K mg base CX0 1 f_people_of d_people_of P_people_of (spD none F_people_of)) (ok_loops : FnG P w K mg base CX0 3 f_loops d_loops P_loops (spD none F_loops)) (B : Gb mg) : FnG P w K mg base CX0 4 f_pure_loops d_pure_loops P_pure_loops (spD none F_pure_loops) := okD A_pure_loops.fn sc_pure_loops fun cdv A outer s H E hr => by
  have nd := sc_pure_loops.nd
  have hu64 := hr.units
  have hu65 := room65 hr
  exact (dss_cons (ds_set (i := 1) nd (de_call ok_people_of (hr.mono (by decide)) rfl A_people_of.mg A_people_of.fn.kp A_people_of.bd (da_cons (de_var 0) da_nil)))
    (dss_one (ds_ret (de_lc (own := [("loop", 2)]) rfl nd (di_seq (de_call ok_loops (hr.mono (by decide)) rfl A_loops.mg A_loops.fn.kp A_loops.bd (da_cons (de_var 0) da_nil))) (blkOk_by (N := N_pure_loops) (sc := defScope s_pure_loops) (by decide +kernel)) (fun _ _ _ _ _ => (dg_name (i := 2) nd)) (fun _ _ _ _ _ => (dts_one (DW.dt (dw_and (dt_cmp op_gt op2_Ib (de_callB call_len opA_len rfl B.n_len (by decide +kernel) (da_cons (de_var 2) da_nil)) de_int (nomark _)) (dw_and1 (dt_val (de_callB (cr_all rfl) opA_all rfl B.n_all (by decide +kernel) (da_cons (de_lc (own := [("person", 3)]) rfl nd (di_seq (de_var 2)) (blkOk_nest (N := N_pure_loops) (by decide +kernel)) (fun _ _ _ _ _ => (dg_name (i := 3) nd)) (fun _ _ _ _ _ => dts_nil) (fun _ _ _ _ _ => (de_cmp op_ge op2_Ib (de_ix ix_seq op2_ix (de_var 0) (de_var 3)) (de_var 1) (nomark _)))) da_nil)))))))) (fun _ _ _ _ _ => (de_var 2))))))
theorem sc_fewest_calls : FnScope N_fewest_calls P_fewest_calls (defScope s_fewest_calls) := ⟨rfl, rfl, rfl, by decide +kernel, rfl, by decide +kernel, by decide +kernel⟩
theorem ok_fewest_calls {f_fewest_calls : Addr} {d_fewest_calls : FuncData} (A_fewest_calls : At K mg "fewest_calls" s_fewest_calls P_fewest_calls f_fewest_calls d_fewest_calls) {f_look_word_of : Addr} {d_look_word_of : FuncData} (A_look_word_of : At K mg "look_word_of" s_look_word_of P_look_word_of f_look_word_of d_look_word_of) {f_people_of : Addr} {d_people_of : FuncData} (A_people_of : At K mg "people_of" s_people_of P_people_of f_people_of d_people_of) {f_loops : Addr} {d_loops : FuncData} (A_loops : At K mg "loops" s_loops P_loops f_loops d_loops) {f_pure_loops : Addr} {d_pure_loops : FuncData} (A_pure_loops : At K mg "pure_loops" s_pure_loops P_pure_loops f_pure_loops d_pure_loops) (ok_look_word_of : FnG P w K mg base CX0 4 f_look_word_of d_look_word_of P_look_word_of (spD none F_look_word_of)) (ok_people_of : FnG P w K mg base CX0 1 f_people_of d_people_of P_people_of (spD none F_people_of)) (ok_loops : FnG P w K mg base CX0 3 f_loops d_loops P_loops (spD none F_loops)) (ok_pure_loops : FnG P w K mg base CX0 4 f_pure_loops d_pure_loops P_pure_loops (spD none F_pure_loops)) (B : Gb mg) : FnG P w K mg base CX0 5 f_fewest_calls d_fewest_calls P_fewest_calls (spD none F_fewest_calls) := okD A_fewest_calls.fn sc_fewest_calls fun cdv A outer s H E hr => by
  have nd := sc_fewest_calls.nd
  have hu64 := hr.units
  have hu65 := room65 hr
  exact (dss_cons (ds_expr (de_call ok_look_word_of (hr.mono (by decide)) rfl A_look_word_of.mg A_look_word_of.fn.kp A_look_word_of.bd (da_cons (de_var 0) da_nil)))
    (dss_one (ds_ret (de_bin op_add' op2_add (de_bin op_sub op2_I (de_call ok_people_of (hr.mono (by decide)) rfl A_people_of.mg A_people_of.fn.kp A_people_of.bd (da_cons (de_var 0) da_nil)) (de_callB call_len opA_len rfl B.n_len (by decide +kernel) (da_cons (de_call ok_loops (hr.mono (by decide)) rfl A_loops.mg A_loops.fn.kp A_loops.bd (da_cons (de_var 0) da_nil)) da_nil))) (de_bin op_mul' op2_mul de_int (de_callB call_len opA_len rfl B.n_len (by decide +kernel) (da_cons (de_call ok_pure_loops (hr.mono (by decide)) rfl A_pure_loops.mg A_pure_loops.fn.kp A_pure_loops.bd (da_cons (de_var 0) da_nil)) da_nil)))))))
theorem sc_with_joins : FnScope N_with_joins P_with_joins (defScope s_with_joins) := ⟨rfl, rfl, rfl, by decide +kernel, rfl, by decide +kernel, by decide +kernel⟩
theorem ok_with_joins {f_with_joins : Addr} {d_with_joins : FuncData} (A_with_joins : At K mg "with_joins" s_with_joins P_with_joins f_with_joins d_with_joins) (B : Gb mg) : FnG P w K mg base CX0 1 f_with_joins d_with_joins P_with_joins (spD none F_with_joins) := okD A_with_joins.fn sc_with_joins fun cdv A outer s H E hr => by
  have nd := sc_with_joins.nd
  have hu64 := hr.units
  have hu65 := room65 hr
  exact (dss_cons (ds_set (i := 2) nd (de_callTy call_list_of opA_list rfl B.n_list (by decide +kernel) (da_cons (de_var 0) da_nil)))
    (dss_cons (ds_for PassesOwn.never rfl (di_seq (de_var 1)) (dg_tup (n := 2) rfl (dgs_cons (dg_name (i := 3) nd) (dgs_cons (dg_name (i := 4) nd) dgs_nil))) (dss_one (ds_asg (de_tup (da_cons (de_var 4) (da_cons (de_var 3) da_nil))) (dg_tup (n := 2) rfl (dgs_cons (dg_sub (j := 2) (de_var 3)) (dgs_cons (dg_sub (j := 2) (de_var 4)) dgs_nil))))))
    (dss_one (ds_ret (de_callTy call_tuple_of opA_tuple rfl B.n_tuple (by decide +kernel) (da_cons (de_var 2) da_nil))))))
theorem sc_before_pair : FnScope N_before_pair P_before_pair (defScope s_before_pair) := ⟨rfl, rfl, rfl, by decide +kernel, rfl, by decide +kernel, by decide +kernel⟩
theorem ok_before_pair {f_before_pair : Addr} {d_before_pair : FuncData} (A_before_pair : At K mg "before_pair" s_before_pair P_before_pair f_before_pair d_before_pair) {f_with_joins : Addr} {d_with_joins : FuncData} (A_with_joins : At K mg "with_joins" s_with_joins P_with_joins f_with_joins d_with_joins) {f_people_of : Addr} {d_people_of : FuncData} (A_people_of : At K mg "people_of" s_people_of P_people_of f_people_of d_people_of) {f_pure_loops : Addr} {d_pure_loops : FuncData} (A_pure_loops : At K mg "pure_loops" s_pure_loops P_pure_loops f_pure_loops d_pure_loops) {f_lower_pairs : Addr} {d_lower_pairs : FuncData} (A_lower_pairs : At K mg "lower_pairs" s_lower_pairs P_lower_pairs f_lower_pairs d_lower_pairs) (ok_with_joins : FnG P w K mg base CX0 1 f_with_joins d_with_joins P_with_joins (spD none F_with_joins)) (ok_people_of : FnG P w K mg base CX0 1 f_people_of d_people_of P_people_of (spD none F_people_of)) (ok_pure_loops : FnG P w K mg base CX0 4 f_pure_loops d_pure_loops P_pure_loops (spD none F_pure_loops)) (ok_lower_pairs : FnG P w K mg base CX0 2 f_lower_pairs d_lower_pairs P_lower_pairs (spD none F_lower_pairs)) (B : Gb mg) : FnG P w K mg base CX0 5 f_before_pair d_before_pair P_before_pair (spD none F_before_pair) := okD A_before_pair.fn sc_before_pair fun cdv A outer s H E hr => by
  have nd := sc_before_pair.nd
  have hu64 := hr.units
  have hu65 := room65 hr
  exact (dss_cons (ds_par (i := 2) (j := 3) rfl nd (da_cons (de_call ok_people_of (hr.mono (by decide)) rfl A_people_of.mg A_people_of.fn.kp A_people_of.bd (da_cons (de_var 0) da_nil)) (da_cons (de_call ok_pure_loops (hr.mono (by decide)) rfl A_pure_loops.mg A_pure_loops.fn.kp A_pure_loops.bd (da_cons (de_var 0) da_nil)) da_nil)))
    (dss_cons (ds_asg (de_var 1) (dg_tup (n := 2) rfl (dgs_cons (dg_name (i := 4) nd) (dgs_cons (dg_name (i := 5) nd) dgs_nil))))
    (dss_cons (ds_if (DW.dt (dw_or (dt_cmp op_gt op2_Ib (de_callB call_len opA_len rfl B.n_len (by decide +kernel) (da_cons (de_call ok_lower_pairs (hr.mono (by decide)) rfl A_lower_pairs.mg A_lower_pairs.fn.kp A_lower_pairs.bd (da_cons (de_var 0) da_nil)) da_nil)) de_int (nomark _)) (dw_or1 (dt_cmp (op_eqA hu64) op2_eq (de_callB call_len opA_len rfl B.n_len (by decide +kernel) (da_cons (de_var 3) da_nil)) de_int (nomark _))))) (dss_one (ds_ret (de_call ok_with_joins (hr.mono (by decide)) rfl A_with_joins.mg A_with_joins.fn.kp A_with_joins.bd (da_cons (de_var 0) (da_cons (de_lst (da_cons (de_tup (da_cons (de_var 4) (da_cons (de_bin op_add' op2_add (de_var 2) (de_var 4)) da_nil))) (da_cons (de_tup (da_cons (de_var 5) (da_cons (de_bin op_add' op2_add (de_var 2) (de_var 5)) da_nil))) da_nil))) da_nil))))) dss_nil)
    (dss_cons (ds_set (i := 6) nd (de_ix ix_seq op2_ix (de_ix ix_seq op2_ix (de_var 3) de_int) de_int))
    (dss_one (ds_ret (de_call ok_with_joins (hr.mono (by decide)) rfl A_with_joins.mg A_with_joins.fn.kp A_with_joins.bd (da_cons (de_var 0) (da_cons (de_lst (da_cons (de_tup (da_cons (de_bin op_add' op2_add (de_var 2) (de_var 5)) (da_cons (de_ix ix_seq op2_ix (de_var 0) (de_var 6)) da_nil))) (da_cons (de_tup (da_cons (de_bin op_add' op2_add (de_var 2) (de_var 4)) (da_cons (de_var 6) da_nil))) da_nil))) da_nil)))))))))
theorem sc_before_call : FnScope N_before_call P_before_call (defScope s_before_call) := ⟨rfl, rfl, rfl, by decide +kernel, rfl, by decide +kernel, by decide +kernel⟩
theorem ok_before_call {f_before_call : Addr} {d_before_call : FuncData} (A_before_call : At K mg "before_call" s_before_call P_before_call f_before_call d_before_call) {f_people_of : Addr} {d_people_of : FuncData} (A_people_of : At K mg "people_of" s_people_of P_people_of f_people_of d_people_of) {f_with_joins : Addr} {d_with_joins : FuncData} (A_with_joins : At K mg "with_joins" s_with_joins P_with_joins f_with_joins d_with_joins) {f_before_pair : Addr} {d_before_pair : FuncData} (A_before_pair : At K mg "before_pair" s_before_pair P_before_pair f_before_pair d_before_pair) (ok_people_of : FnG P w K mg base CX0 1 f_people_of d_people_of P_people_of (spD none F_people_of)) (ok_with_joins : FnG P w K mg base CX0 1 f_with_joins d_with_joins P_with_joins (spD none F_with_joins)) (ok_before_pair : FnG P w K mg base CX0 5 f_before_pair d_before_pair P_before_pair (spD none F_before_pair)) (B : Gb mg) : FnG P w K mg base CX0 6 f_before_call d_before_call P_before_call (spD none F_before_call) := okD A_before_call.fn sc_before_call fun cdv A outer s H E hr => by
  have nd := sc_before_call.nd
  have hu64 := hr.units
  have hu65 := room65 hr
  exact (dss_cons (ds_set (i := 2) nd (de_call ok_people_of (hr.mono (by decide)) rfl A_people_of.mg A_people_of.fn.kp A_people_of.bd (da_cons (de_var 0) da_nil)))
    (dss_cons (ds_asg (de_var 1) (dg_tup (n := 2) rfl (dgs_cons (dg_name (i := 3) nd) (dgs_cons (dg_name (i := 4) nd) dgs_nil))))
    (dss_cons (ds_if (dt_cmp (op_eqA hu64) op2_eq (de_ix ix_seq op2_ix (de_var 0) (de_var 3)) (de_var 4) (nomark _)) (dss_one (ds_ret (de_call ok_before_pair (hr.mono (by decide)) rfl A_before_pair.mg A_before_pair.fn.kp A_before_pair.bd (da_cons (de_var 0) (da_cons (de_var 1) da_nil))))) dss_nil)
    (dss_cons (ds_if (DW.dt (dw_and (dt_cmp op_lt op2_Ib (de_ix ix_seq op2_ix (de_var 0) (de_var 4)) (de_var 2) (nomark _)) (dw_and1 (dt_cmp op_ge op2_Ib (de_ix ix_seq op2_ix (de_var 0) (de_var 3)) (de_var 2) (nomark _))))) (dss_one (ds_par (i := 3) (j := 4) rfl nd (da_cons (de_var 4) (da_cons (de_var 3) da_nil)))) dss_nil)
    (dss_one (ds_ret (de_call ok_with_joins (hr.mono (by decide)) rfl A_with_joins.mg A_with_joins.fn.kp A_with_joins.bd (da_cons (de_var 0) (da_cons (de_lst (da_cons (de_tup (da_cons (de_bin op_add' op2_add (de_var 2) (de_var 3)) (da_cons (de_ix ix_seq op2_ix (de_var 0) (de_var 4)) da_nil))) (da_cons (de_tup (da_cons (de_bin op_add' op2_add (de_var 2) (de_var 4)) (da_cons (de_var 4) da_nil))) da_nil))) da_nil)))))))))
theorem sc_word_for : FnScope N_word_for P_word_for (defScope s_word_for) := ⟨rfl, rfl, rfl, by decide +kernel, rfl, by decide +kernel, by decide +kernel⟩
theorem ok_word_for {f_word_for : Addr} {d_word_for : FuncData} (A_word_for : At K mg "word_for" s_word_for P_word_for f_word_for d_word_for) {f_fewest_calls : Addr} {d_fewest_calls : FuncData} (A_fewest_calls : At K mg "fewest_calls" s_fewest_calls P_fewest_calls f_fewest_calls d_fewest_calls) {f_before_call : Addr} {d_before_call : FuncData} (A_before_call : At K mg "before_call" s_before_call P_before_call f_before_call d_before_call) {f_lower_pairs : Addr} {d_lower_pairs : FuncData} (A_lower_pairs : At K mg "lower_pairs" s_lower_pairs P_lower_pairs f_lower_pairs d_lower_pairs) (ok_fewest_calls : FnG P w K mg base CX0 5 f_fewest_calls d_fewest_calls P_fewest_calls (spD none F_fewest_calls)) (ok_before_call : FnG P w K mg base CX0 6 f_before_call d_before_call P_before_call (spD none F_before_call)) (ok_lower_pairs : FnG P w K mg base CX0 2 f_lower_pairs d_lower_pairs P_lower_pairs (spD none F_lower_pairs)) (B : Gb mg) : FnG P w K mg base CX0 7 f_word_for d_word_for P_word_for (spD none F_word_for) := okD A_word_for.fn sc_word_for fun cdv A outer s H E hr => by
  have nd := sc_word_for.nd
  have hu64 := hr.units
  have hu65 := room65 hr
  exact (dss_cons (ds_par (i := 1) (j := 2) rfl nd (da_cons (de_lst da_nil) (da_cons (de_callTy call_tuple_of opA_tuple rfl B.n_tuple (by decide +kernel) (da_cons (de_var 0) da_nil)) da_nil)))
    (dss_cons (ds_for PassesOwn.never rfl (di_rng1 rfl B.n_range (da_cons (de_call ok_fewest_calls (hr.mono (by decide)) rfl A_fewest_calls.mg A_fewest_calls.fn.kp A_fewest_calls.bd (da_cons (de_var 0) da_nil)) da_nil)) (dg_name (i := 3) nd) (dss_cons (ds_expr (de_meth 1 PySem.F.slot_list_append PySem.F.type_list_append mt_append opM_append (da_cons (de_ix ix_seq op2_ix (de_call ok_lower_pairs (hr.mono (by decide)) rfl A_lower_pairs.mg A_lower_pairs.fn.kp A_lower_pairs.bd (da_cons (de_var 2) da_nil)) de_int) da_nil)))
    (dss_one (ds_set (i := 2) nd (de_call ok_before_call (hr.mono (by decide)) rfl A_before_call.mg A_before_call.fn.kp A_before_call.bd (da_cons (de_var 2) (da_cons (de_ix ix_seq op2_ix (de_var 1) (de_un un_neg op1_neg de_int)) da_nil)))))))
    (dss_one (ds_ret (de_rev (de_var 1))))))
theorem sc_law_with : FnScope N_law_with P_law_with (defScope s_law_with) := ⟨rfl, rfl, rfl, by decide +kernel, rfl, by decide +kernel, by decide +kernel⟩
theorem ok_law_with {f_law_with : Addr} {d_law_with : FuncData} (A_law_with : At K mg "_law_with" s_law_with P_law_with f_law_with d_law_with) (B : Gb mg) : FnG P w K mg base CX0 1 f_law_with d_law_with P_law_with (spD none F_law_with) := okD A_law_with.fn sc_law_with fun cdv A outer s H E hr => by
  have nd := sc_law_with.nd
  have hu64 := hr.units
  have hu65 := room65 hr
  exact (dss_cons (ds_set (i := 2) nd (de_bin op_add' op2_add (de_lst (da_cons de_int (da_cons de_int da_nil))) (de_rep (de_lst (da_cons de_int da_nil)) (de_bin op_sub op2_I (de_var 0) de_int))))
    (dss_cons (ds_for PassesOwn.never rfl (di_seq (de_var 1)) (dg_tup (n := 2) rfl (dgs_cons (dg_name (i := 3) nd) (dgs_cons (dg_name (i := 4) nd) dgs_nil))) (dss_cons (ds_asg (de_bin op_add' op2_add de_int (de_var 4)) (dg_sub (j := 2) (de_bin op_add' op2_add de_int (de_var 3))))
    (dss_one (ds_asg (de_bin op_add' op2_add de_int (de_var 3)) (dg_sub (j := 2) (de_bin op_add' op2_add de_int (de_var 4)))))))
    (dss_one (ds_ret (de_callTy call_tuple_of opA_tuple rfl B.n_tuple (by decide +kernel) (da_cons (de_var 2) da_nil))))))
theorem sc_law_led_web : FnScope N_law_led_web P_law_led_web (defScope s_law_led_web) := ⟨rfl, rfl, rfl, by decide +kernel, rfl, by decide +kernel, by decide +kernel⟩
theorem ok_law_led_web {f_law_led_web : Addr} {d_law_led_web : FuncData} (A_law_led_web : At K mg "_law_led_web" s_law_led_web P_law_led_web f_law_led_web d_law_led_web) (B : Gb mg) : FnG P w K mg base CX0 1 f_law_led_web d_law_led_web P_law_led_web (spD none F_law_led_web) := okD A_law_led_web.fn sc_law_led_web fun cdv A outer s H E hr => by
  have nd := sc_law_led_web.nd
  have hu64 := hr.units
  have hu65 := room65 hr
  exact (dss_cons (ds_set (i := 2) nd (de_bin op_add' op2_add (de_bin op_add' op2_add (de_bin op_add' op2_add (de_lst (da_cons de_int (da_cons de_int da_nil))) (de_rep (de_lst (da_cons de_int da_nil)) (de_bin op_sub op2_I (de_var 0) de_int))) (de_lst (da_cons (de_bin op_add' op2_add (de_var 0) de_int) (da_cons (de_var 0) da_nil)))) (de_rep (de_lst (da_cons de_int da_nil)) (de_bin op_sub op2_I (de_var 0) de_int))))
    (dss_cons (ds_for PassesOwn.never rfl (di_enum rfl B.n_enumerate (de_var 1)) (dg_tup (n := 2) rfl (dgs_cons (dg_name (i := 3) nd) (dgs_cons (dg_name (i := 4) nd) dgs_nil))) (dss_cons (ds_asg (de_bin op_add' op2_add (de_bin op_add' op2_add (de_var 0) de_int) (de_var 4)) (dg_sub (j := 2) (de_bin op_add' op2_add de_int (de_var 3))))
    (dss_one (ds_asg (de_bin op_add' op2_add de_int (de_var 3)) (dg_sub (j := 2) (de_bin op_add' op2_add (de_bin op_add' op2_add (de_var 0) de_int) (de_var 4)))))))
    (dss_one (ds_ret (de_callTy call_tuple_of opA_tuple rfl B.n_tuple (by decide +kernel) (da_cons (de_var 2) da_nil))))))
theorem sc_law_same : FnScope N_law_same P_law_same (defScope s_law_same) := ⟨rfl, rfl, rfl, by decide +kernel, rfl, by decide +kernel, by decide +kernel⟩
theorem ok_law_same {f_law_same : Addr} {d_law_same : FuncData} (A_law_same : At K mg "_law_same" s_law_same P_law_same f_law_same d_law_same) (B : Gb mg) : ∀ m : Nat, FnG P w K mg base CX0 (1 + m) f_law_same d_law_same P_law_same (spD none (F_law_same m))
  | 0 => fn_none
  | m + 1 => okD (lv := 1 + m) A_law_same.fn sc_law_same fun cdv A outer s H E hr => by
    have ih := ok_law_same A_law_same B m
    have nd := sc_law_same.nd
    have hu64 := hr.units
    have hu65 := room65 hr
    exact (dss_cons (ds_if (dt_val (de_isi2 rfl B.n_isinstance (de_var 1) rfl B.n_list (by decide +kernel) (ts := "list") (by decide) rfl B.n_tuple (by decide +kernel) (us := "tuple") (by decide))) (dss_cons (ds_if (DW.dt (dw_or (dt_cmp (op_neA hu64) op2_ne (de_isi rfl B.n_isinstance (de_var 0) rfl B.n_list (by decide +kernel) (ts := "list") (by decide)) (de_isi rfl B.n_isinstance (de_var 1) rfl B.n_list (by decide +kernel) (ts := "list") (by decide)) (nomark _)) (dw_or1 (dt_cmp (op_neA hu64) op2_ne (de_isi rfl B.n_isinstance (de_var 0) rfl B.n_tuple (by decide +kernel) (ts := "tuple") (by decide)) (de_isi rfl B.n_isinstance (de_var 1) rfl B.n_tuple (by decide +kernel) (ts := "tuple") (by decide)) (nomark _))))) (dss_one (ds_ret de_bl)) dss_nil)
        (dss_one (ds_ret (de_and (de_cmp (op_eqA hu64) op2_eq (de_callB call_len opA_len rfl B.n_len (by decide +kernel) (da_cons (de_var 0) da_nil)) (de_callB call_len opA_len rfl B.n_len (by decide +kernel) (da_cons (de_var 1) da_nil)) (nomark _)) (de_one (de_callB (cr_all rfl) opA_all rfl B.n_all (by decide +kernel) (da_cons (de_lc (own := [("_law_mine", 2), ("_law_its", 3)]) rfl nd (di_zip rfl B.n_zip (da_cons (de_var 0) (da_cons (de_var 1) da_nil))) (blkOk_by (N := N_law_same) (sc := defScope s_law_same) (by decide +kernel)) (fun _ _ _ _ _ => (dg_tup (n := 2) rfl (dgs_cons (dg_name (i := 2) nd) (dgs_cons (dg_name (i := 3) nd) dgs_nil)))) (fun _ _ _ _ _ => dts_nil) (fun _ _ _ _ _ => (de_call ih (hr.mono (by omega)) rfl A_law_same.mg A_law_same.fn.kp A_law_same.bd (da_cons (de_var 2) (da_cons (de_var 3) da_nil))))) da_nil))))))) dss_nil)
        (dss_cons (ds_if (DW.dt (dw_or (dt_cmp op_isA op2_is (de_var 1) de_non (nomark _)) (dw_or1 (dt_val (de_isi rfl B.n_isinstance (de_var 1) rfl B.n_str (by decide +kernel) (ts := "str") (by decide)))))) (dss_one (ds_ret (de_and (de_cmp (op_eqA hu64) op2_eq (de_var 0) (de_var 1) (nomark _)) (de_one (de_cmp (op_eqA hu64) op2_eq (de_isi rfl B.n_isinstance (de_var 0) rfl B.n_str (by decide +kernel) (ts := "str") (by decide)) (de_isi rfl B.n_isinstance (de_var 1) rfl B.n_str (by decide +kernel) (ts := "str") (by decide)) (nomark _)))))) dss_nil)
        (dss_one (ds_ret (de_and (de_isi rfl B.n_isinstance (de_var 0) rfl B.n_int (by decide +kernel) (ts := "int") (by decide)) (de_and (de_cmp (op_eqA hu64) op2_eq (de_isi rfl B.n_isinstance (de_var 0) rfl B.n_bool (by decide +kernel) (ts := "bool") (by decide)) (de_isi rfl B.n_isinstance (de_var 1) rfl B.n_bool (by decide +kernel) (ts := "bool") (by decide)) (nomark _)) (de_one (de_cmp (op_eqA hu64) op2_eq (de_var 0) (de_var 1) (nomark _)))))))))
theorem sc_look_person : FnScope N_look_person P_look_person (defScope s_look_person) := ⟨rfl, rfl, rfl, by decide +kernel, rfl, by decide +kernel, by decide +kernel⟩
theorem ok_look_person {f_look_person : Addr} {d_look_person : FuncData} (A_look_person : At K mg "look_person" s_look_person P_look_person f_look_person d_look_person) (B : Gb mg) : FnG P w K mg base CX0 3 f_look_person d_look_person P_look_person (spD none F_look_person) := okD A_look_person.fn sc_look_person fun cdv A outer s H E hr => by
  have nd := sc_look_person.nd
  have hu64 := hr.units
  have hu65 := room65 hr
  exact (dss_one (ds_if (dt_not (dt_chain op_le op_lt op2_Ib op2_Ib de_int (de_var 1) (de_var 0))) dss_never dss_nil))
theorem sc_look_call : FnScope N_look_call P_look_call (defScope s_look_call) := ⟨rfl, rfl, rfl, by decide +kernel, rfl, by decide +kernel, by decide +kernel⟩
theorem ok_look_call {f_look_call : Addr} {d_look_call : FuncData} (A_look_call : At K mg "look_call" s_look_call P_look_call f_look_call d_look_call) {f_look_person : Addr} {d_look_person : FuncData} (A_look_person : At K mg "look_person" s_look_person P_look_person f_look_person d_look_person) (ok_look_person : FnG P w K mg base CX0 3 f_look_person d_look_person P_look_person (spD none F_look_person)) (B : Gb mg) : FnG P w K mg base CX0 4 f_look_call d_look_call P_look_call (spD none F_look_call) := okD A_look_call.fn sc_look_call fun cdv A outer s H E hr => by
  have nd := sc_look_call.nd
  have hu64 := hr.units
  have hu65 := room65 hr
  exact (dss_one (ds_for PassesOwn.never rfl (di_seq (de_var 1)) (dg_name (i := 2) nd) (dss_one (ds_expr (de_call ok_look_person (hr.mono (by decide)) rfl A_look_person.mg A_look_person.fn.kp A_look_person.bd (da_cons (de_var 0) (da_cons (de_var 2) da_nil)))))))
theorem sc_look_word : FnScope N_look_word P_look_word (defScope s_look_word) := ⟨rfl, rfl, rfl, by decide +kernel, rfl, by decide +kernel, by decide +kernel⟩
theorem ok_look_word {f_look_word : Addr} {d_look_word : FuncData} (A_look_word : At K mg "look_word" s_look_word P_look_word f_look_word d_look_word) {f_look_call : Addr} {d_look_call : FuncData} (A_look_call : At K mg "look_call" s_look_call P_look_call f_look_call d_look_call) (ok_look_call : FnG P w K mg base CX0 4 f_look_call d_look_call P_look_call (spD none F_look_call)) (B : Gb mg) : FnG P w K mg base CX0 5 f_look_word d_look_word P_look_word (spD none F_look_word) := okD A_look_word.fn sc_look_word fun cdv A outer s H E hr => by
  have nd := sc_look_word.nd
  have hu64 := hr.units
  have hu65 := room65 hr
  exact (dss_one (ds_for PassesOwn.never rfl (di_seq (de_var 1)) (dg_name (i := 2) nd) (dss_one (ds_expr (de_call ok_look_call (hr.mono (by decide)) rfl A_look_call.mg A_look_call.fn.kp A_look_call.bd (da_cons (de_var 0) (da_cons (de_var 2) da_nil)))))))
theorem sc_added : FnScope N_added P_added (defScope s_added) := ⟨rfl, rfl, rfl, by decide +kernel, rfl, by decide +kernel, by decide +kernel⟩
theorem ok_added {f_added : Addr} {d_added : FuncData} (A_added : At K mg "added" s_added P_added f_added d_added) {f_people_of : Addr} {d_people_of : FuncData} (A_people_of : At K mg "people_of" s_people_of P_people_of f_people_of d_people_of) {f_with_joins : Addr} {d_with_joins : FuncData} (A_with_joins : At K mg "with_joins" s_with_joins P_with_joins f_with_joins d_with_joins) (ok_people_of : FnG P w K mg base CX0 1 f_people_of d_people_of P_people_of (spD none F_people_of)) (ok_with_joins : FnG P w K mg base CX0 1 f_with_joins d_with_joins P_with_joins (spD none F_with_joins)) (B : Gb mg) : FnG P w K mg base CX0 2 f_added d_added P_added (spD none F_added) := okD A_added.fn sc_added fun cdv A outer s H E hr => by
  have nd := sc_added.nd
  have hu64 := hr.units
  have hu65 := room65 hr
  exact (dss_cons (ds_set (i := 2) nd (de_call ok_people_of (hr.mono (by decide)) rfl A_people_of.mg A_people_of.fn.kp A_people_of.bd (da_cons (de_var 0) da_nil)))
    (dss_cons (ds_par (i := 3) (j := 4) rfl nd (da_cons (de_bin op_add' op2_add (de_var 2) (de_ix ix_seq op2_ix (de_var 1) de_int)) (da_cons (de_bin op_add' op2_add (de_var 2) (de_ix ix_seq op2_ix (de_var 1) de_int)) da_nil)))
    (dss_cons (ds_if (dt_cmp (op_eqA hu64) op2_eq (de_ix ix_seq op2_ix (de_var 0) (de_var 3)) (de_var 4) (nomark _)) (dss_one (ds_ret (de_callTy call_tuple_of opA_tuple rfl B.n_tuple (by decide +kernel) (da_cons (de_var 0) da_nil)))) dss_nil)
    (dss_one (ds_ret (de_call ok_with_joins (hr.mono (by decide)) rfl A_with_joins.mg A_with_joins.fn.kp A_with_joins.bd (da_cons (de_var 0) (da_cons (de_lst (da_cons (de_tup (da_cons (de_ix ix_seq op2_ix (de_var 0) (de_var 3)) (da_cons (de_ix ix_seq op2_ix (de_var 0) (de_var 4)) da_nil))) (da_cons (de_tup (da_cons (de_var 3) (da_cons (de_var 4) da_nil))) da_nil))) da_nil))))))))
theorem sc_sheet_of : FnScope N_sheet_of P_sheet_of (defScope s_sheet_of) := ⟨rfl, rfl, rfl, by decide +kernel, rfl, by decide +kernel, by decide +kernel⟩
theorem ok_sheet_of {f_sheet_of : Addr} {d_sheet_of : FuncData} (A_sheet_of : At K mg "sheet_of" s_sheet_of P_sheet_of f_sheet_of d_sheet_of) {f_look_word : Addr} {d_look_word : FuncData} (A_look_word : At K mg "look_word" s_look_word P_look_word f_look_word d_look_word) {f_empty_sheet : Addr} {d_empty_sheet : FuncData} (A_empty_sheet : At K mg "empty_sheet" s_empty_sheet P_empty_sheet f_empty_sheet d_empty_sheet) {f_added : Addr} {d_added : FuncData} (A_added : At K mg "added" s_added P_added f_added d_added) (ok_look_word : FnG P w K mg base CX0 5 f_look_word d_look_word P_look_word (spD none F_look_word)) (ok_empty_sheet : FnG P w K mg base CX0 1 f_empty_sheet d_empty_sheet P_empty_sheet (spD none F_empty_sheet)) (ok_added : FnG P w K mg base CX0 2 f_added d_added P_added (spD none F_added)) (B : Gb mg) : FnG P w K mg base CX0 6 f_sheet_of d_sheet_of P_sheet_of (spD none F_sheet_of) := okD A_sheet_of.fn sc_sheet_of fun cdv A outer s H E hr => by
  have nd := sc_sheet_of.nd
  have hu64 := hr.units
  have hu65 := room65 hr
  exact (dss_cons (ds_expr (de_call ok_look_word (hr.mono (by decide)) rfl A_look_word.mg A_look_word.fn.kp A_look_word.bd (da_cons (de_var 0) (da_cons (de_var 1) da_nil))))
    (dss_cons (ds_set (i := 2) nd (de_call ok_empty_sheet (hr.mono (by decide)) rfl A_empty_sheet.mg A_empty_sheet.fn.kp A_empty_sheet.bd (da_cons (de_var 0) da_nil)))
    (dss_cons (ds_for PassesOwn.never rfl (di_seq (de_var 1)) (dg_name (i := 3) nd) (dss_one (ds_set (i := 2) nd (de_call ok_added (hr.mono (by decide)) rfl A_added.mg A_added.fn.kp A_added.bd (da_cons (de_var 2) (da_cons (de_var 3) da_nil))))))
    (dss_one (ds_ret (de_var 2))))))
theorem sc_ends_from : FnScope N_ends_from P_ends_from (defScope s_ends_from) := ⟨rfl, rfl, rfl, by decide +kernel, rfl, by decide +kernel, by decide +kernel⟩
theorem ok_ends_from {f_ends_from : Addr} {d_ends_from : FuncData} (A_ends_from : At K mg "ends_from" s_ends_from P_ends_from f_ends_from d_ends_from) (B : Gb mg) : FnG P w K mg base CX0 1 f_ends_from d_ends_from P_ends_from (spD none F_ends_from) := okD A_ends_from.fn sc_ends_from fun cdv A outer s H E hr => by
  have nd := sc_ends_from.nd
  have hu64 := hr.units
  have hu65 := room65 hr
  exact (dss_cons (ds_set (i := 3) nd (de_callB call_len opA_len rfl B.n_len (by decide +kernel) (da_cons (de_var 1) da_nil)))
    (dss_cons (ds_set (i := 4) nd (de_lst (da_cons (de_bin op_add' op2_add (de_var 3) (de_var 2)) (da_cons (de_ix ix_seq op2_ix (de_var 0) (de_bin op_add' op2_add (de_var 3) (de_var 2))) da_nil))))
    (dss_cons (ds_while 1000000 PassesOwn.never (dt_cmp op_lt op2_Ib (de_ix ix_seq op2_ix (de_var 4) (de_un un_neg op1_neg de_int)) (de_var 3) (nomark _)) (dss_cons (ds_expr (de_meth 4 PySem.F.slot_list_append PySem.F.type_list_append mt_append opM_append (da_cons (de_ix ix_seq op2_ix (de_var 1) (de_ix ix_seq op2_ix (de_var 4) (de_un un_neg op1_neg de_int))) da_nil)))
    (dss_one (ds_expr (de_meth 4 PySem.F.slot_list_append PySem.F.type_list_append mt_append opM_append (da_cons (de_ix ix_seq op2_ix (de_var 0) (de_ix ix_seq op2_ix (de_var 4) (de_un un_neg op1_neg de_int))) da_nil))))))
    (dss_one (ds_ret (de_var 4))))))
theorem sc_result_of : FnScope N_result_of P_result_of (defScope s_result_of) := ⟨rfl, rfl, rfl, by decide +kernel, rfl, by decide +kernel, by decide +kernel⟩
theorem ok_result_of {f_result_of : Addr} {d_result_of : FuncData} (A_result_of : At K mg "result_of" s_result_of P_result_of f_result_of d_result_of) {f_ends_from : Addr} {d_ends_from : FuncData} (A_ends_from : At K mg "ends_from" s_ends_from P_ends_from f_ends_from d_ends_from) (ok_ends_from : FnG P w K mg base CX0 1 f_ends_from d_ends_from P_ends_from (spD none F_ends_from)) (B : Gb mg) : FnG P w K mg base CX0 2 f_result_of d_result_of P_result_of (spD none F_result_of) := okD A_result_of.fn sc_result_of fun cdv A outer s H E hr => by
  have nd := sc_result_of.nd
  have hu64 := hr.units
  have hu65 := room65 hr
  exact (dss_cons (ds_set (i := 2) nd (de_callB call_len opA_len rfl B.n_len (by decide +kernel) (da_cons (de_var 1) da_nil)))
    (dss_one (ds_ret (de_callTy call_tuple_of opA_tuple rfl B.n_tuple (by decide +kernel) (da_cons (de_lc (own := [("person", 3)]) rfl nd (di_rng1 rfl B.n_range (da_cons (de_var 2) da_nil)) (blkOk_by (N := N_result_of) (sc := defScope s_result_of) (by decide +kernel)) (fun _ _ _ _ _ => (dg_name (i := 3) nd)) (fun _ _ _ _ _ => dts_nil) (fun _ _ _ _ _ => (de_bin op_sub op2_I (de_ix ix_seq op2_ix (de_call ok_ends_from (hr.mono (by decide)) rfl A_ends_from.mg A_ends_from.fn.kp A_ends_from.bd (da_cons (de_var 0) (da_cons (de_var 1) (da_cons (de_var 3) da_nil)))) (de_un un_neg op1_neg de_int)) (de_var 2)))) da_nil)))))
theorem sc_pairings_met : FnScope N_pairings_met P_pairings_met (defScope s_pairings_met) := ⟨rfl, rfl, rfl, by decide +kernel, rfl, by decide +kernel, by decide +kernel⟩
theorem ok_pairings_met {f_pairings_met : Addr} {d_pairings_met : FuncData} (A_pairings_met : At K mg "pairings_met" s_pairings_met P_pairings_met f_pairings_met d_pairings_met) {f_sheet_of : Addr} {d_sheet_of : FuncData} (A_sheet_of : At K mg "sheet_of" s_sheet_of P_sheet_of f_sheet_of d_sheet_of) {f_result_of : Addr} {d_result_of : FuncData} (A_result_of : At K mg "result_of" s_result_of P_result_of f_result_of d_result_of) (ok_sheet_of : FnG P w K mg base CX0 6 f_sheet_of d_sheet_of P_sheet_of (spD none F_sheet_of)) (ok_result_of : FnG P w K mg base CX0 2 f_result_of d_result_of P_result_of (spD none F_result_of)) (B : Gb mg) : FnG P w K mg base CX0 7 f_pairings_met d_pairings_met P_pairings_met (spD none F_pairings_met) := okD A_pairings_met.fn sc_pairings_met fun cdv A outer s H E hr => by
  have nd := sc_pairings_met.nd
  have hu64 := hr.units
  have hu65 := room65 hr
  exact (dss_cons (ds_par3 (i := 2) (j := 3) (l := 4) rfl nd (da_cons (de_call ok_sheet_of (hr.mono (by decide)) rfl A_sheet_of.mg A_sheet_of.fn.kp A_sheet_of.bd (da_cons (de_callB call_len opA_len rfl B.n_len (by decide +kernel) (da_cons (de_var 0) da_nil)) (da_cons (de_var 1) da_nil))) (da_cons (de_callTy call_tuple_of opA_tuple rfl B.n_tuple (by decide +kernel) (da_cons (de_var 0) da_nil)) (da_cons de_dct0T da_nil))))
    (dss_cons (ds_while 1000000 PassesOwn.never (dt_cmp (op_dnin hu64) op2_dnin (de_var 3) (de_var 4) (by with_unfolding_all rfl)) (dss_cons (ds_asg (de_callB call_lenDD opA_dlen rfl B.n_len (by decide +kernel) (da_cons (de_var 4) da_nil)) (dg_dput (j := 4) hu64 (de_var 3)))
    (dss_one (ds_set (i := 3) nd (de_call ok_result_of (hr.mono (by decide)) rfl A_result_of.mg A_result_of.fn.kp A_result_of.bd (da_cons (de_var 2) (da_cons (de_var 3) da_nil)))))))
    (dss_one (ds_ret (de_tup (da_cons (de_var 4) (da_cons (de_ix (ix_dict hu64) op2_dget (de_var 4) (de_var 3)) da_nil)))))))
theorem sc_settles : FnScope N_settles P_settles (defScope s_settles) := ⟨rfl, rfl, rfl, by decide +kernel, rfl, by decide +kernel, by decide +kernel⟩
theorem ok_settles {f_settles : Addr} {d_settles : FuncData} (A_settles : At K mg "settles" s_settles P_settles f_settles d_settles) {f_pairings_met : Addr} {d_pairings_met : FuncData} (A_pairings_met : At K mg "pairings_met" s_pairings_met P_pairings_met f_pairings_met d_pairings_met) (ok_pairings_met : FnG P w K mg base CX0 7 f_pairings_met d_pairings_met P_pairings_met (spD none F_pairings_met)) (B : Gb mg) : FnG P w K mg base CX0 8 f_settles d_settles P_settles (spD none F_settles) := okD A_settles.fn sc_settles fun cdv A outer s H E hr => by
  have nd := sc_settles.nd
  have hu64 := hr.units
  have hu65 := room65 hr
  exact (dss_cons (ds_asg (de_call ok_pairings_met (hr.mono (by decide)) rfl A_pairings_met.mg A_pairings_met.fn.kp A_pairings_met.bd (da_cons (de_var 0) (da_cons (de_var 1) da_nil))) (dg_tup (n := 2) rfl (dgs_cons (dg_name (i := 2) nd) (dgs_cons (dg_name (i := 3) nd) dgs_nil))))
    (dss_one (ds_ret (de_tup (da_cons (de_var 3) (da_cons (de_bin op_sub op2_I (de_callB call_lenDD opA_dlen rfl B.n_len (by decide +kernel) (da_cons (de_var 2) da_nil)) (de_var 3)) da_nil))))))
theorem sc_law_take : FnScope N_law_take P_law_take (defScope s_law_take) := ⟨rfl, rfl, rfl, by decide +kernel, rfl, by decide +kernel, by decide +kernel⟩
theorem ok_law_take {f_law_take : Addr} {d_law_take : FuncData} (A_law_take : At K mg "_law_take" s_law_take P_law_take f_law_take d_law_take) (B : Gb mg) : ∀ m : Nat, FnG P w K mg base CX0 (1 + m) f_law_take d_law_take P_law_take (spD (some 0) (F_law_take m))
  | 0 => fn_none
  | m + 1 => okD (lv := 1 + m) A_law_take.fn sc_law_take fun cdv A outer s H E hr => by
    have ih := ok_law_take A_law_take B m
    have nd := sc_law_take.nd
    have hu64 := hr.units
    have hu65 := room65 hr
    exact (dss_cons (ds_if (dt_cmp op_gt op2_Ib (de_ix ix_seq op2_ix (de_var 0) de_int) de_int (nomark _)) (dss_cons (ds_set (i := 2) nd (de_bin op_mod op2_mod (de_ix ix_seq op2_ix (de_var 0) de_int) (de_var 1)))
        (dss_cons (ds_asg (de_bin op_fdiv' op2_fdiv (de_ix ix_seq op2_ix (de_var 0) de_int) (de_var 1)) (dg_sub (j := 0) de_int))
        (dss_one (ds_ret (de_var 2))))) dss_nil)
        (dss_cons (ds_if (dt_cmp op_gt op2_Ib (de_var 1) (de_bin op_pow op2_pow de_int de_int) (nomark _)) (dss_one (ds_ret (de_bin op_mod op2_mod (de_bin op_add' op2_add (de_call ih (hr.mono (by omega)) rfl A_law_take.mg A_law_take.fn.kp A_law_take.bd (da_cons (de_var 0) (da_cons (de_bin op_pow op2_pow de_int de_int) da_nil))) (de_bin op_mul' op2_mul (de_bin op_pow op2_pow de_int de_int) (de_call ih (hr.mono (by omega)) rfl A_law_take.mg A_law_take.fn.kp A_law_take.bd (da_cons (de_var 0) (da_cons (de_bin op_add' op2_add (de_bin op_fdiv' op2_fdiv (de_bin op_sub op2_I (de_var 1) de_int) (de_bin op_pow op2_pow de_int de_int)) de_int) da_nil))))) (de_var 1)))) dss_nil)
        (dss_cons (ds_asg (de_bin op_add' op2_add (de_ix ix_seq op2_ix (de_var 0) de_int) de_int) (dg_sub (j := 0) de_int))
        (dss_cons (ds_set (i := 3) nd (de_bin op_mod op2_mod (de_bin op_pow op2_pow (de_bin op_add' op2_add (de_ix ix_seq op2_ix (de_var 0) de_int) (de_bin op_mul' op2_mul de_int (de_ix ix_seq op2_ix (de_var 0) de_int))) de_int) de_int))
        (dss_one (ds_ret (de_bin op_mod op2_mod (de_bin op_fdiv' op2_fdiv (de_bin op_mod op2_mod (de_bin op_add' op2_add (de_bin op_mul' op2_mul (de_var 3) (de_bin op_add' op2_add (de_bin op_mod op2_mod (de_var 3) de_int) de_int)) (de_bin op_mul' op2_mul (de_ix ix_seq op2_ix (de_var 0) de_int) de_int)) de_int) de_int) (de_var 1))))))))
theorem sc_first_time : FnScope N_first_time P_first_time (defScope s_first_time) := ⟨rfl, rfl, rfl, by decide +kernel, rfl, by decide +kernel, by decide +kernel⟩
theorem ok_first_time {f_first_time : Addr} {d_first_time : FuncData} (A_first_time : At K mg "first_time" s_first_time P_first_time f_first_time d_first_time) {f_look_person : Addr} {d_look_person : FuncData} (A_look_person : At K mg "look_person" s_look_person P_look_person f_look_person d_look_person) {f_pairings_met : Addr} {d_pairings_met : FuncData} (A_pairings_met : At K mg "pairings_met" s_pairings_met P_pairings_met f_pairings_met d_pairings_met) (ok_look_person : FnG P w K mg base CX0 3 f_look_person d_look_person P_look_person (spD none F_look_person)) (ok_pairings_met : FnG P w K mg base CX0 7 f_pairings_met d_pairings_met P_pairings_met (spD none F_pairings_met)) (B : Gb mg) : FnG P w K mg base CX0 8 f_first_time d_first_time P_first_time (spD none F_first_time) := okD A_first_time.fn sc_first_time fun cdv A outer s H E hr => by
  have nd := sc_first_time.nd
  have hu64 := hr.units
  have hu65 := room65 hr
  exact (dss_cons (ds_set (i := 4) nd (de_ix ix_seq op2_ix (de_call ok_pairings_met (hr.mono (by decide)) rfl A_pairings_met.mg A_pairings_met.fn.kp A_pairings_met.bd (da_cons (de_var 0) (da_cons (de_var 1) da_nil))) de_int))
    (dss_cons (ds_expr (de_call ok_look_person (hr.mono (by decide)) rfl A_look_person.mg A_look_person.fn.kp A_look_person.bd (da_cons (de_callB call_len opA_len rfl B.n_len (by decide +kernel) (da_cons (de_var 0) da_nil)) (da_cons (de_var 2) da_nil))))
    (dss_cons (ds_expr (de_call ok_look_person (hr.mono (by decide)) rfl A_look_person.mg A_look_person.fn.kp A_look_person.bd (da_cons (de_callB call_len opA_len rfl B.n_len (by decide +kernel) (da_cons (de_var 0) da_nil)) (da_cons (de_var 3) da_nil))))
    (dss_cons (ds_setLcI (j := 5) (own := [("there", 6), ("many", 7)]) rfl nd (i := 4) (blkOk_by (N := N_first_time) (sc := defScope s_first_time) (by decide +kernel)) (fun _ _ _ _ _ => (dg_tup (n := 2) rfl (dgs_cons (dg_name (i := 6) nd) (dgs_cons (dg_name (i := 7) nd) dgs_nil)))) (fun _ _ _ _ _ => (dts_one (dt_cmp (op_eqA hu64) op2_eq (de_ix ix_seq op2_ix (de_var 6) (de_var 2)) (de_var 3) (nomark _)))) (fun _ _ _ _ _ => (de_var 7)) (sw_true rfl rfl rfl (by decide +kernel)))
    (dss_one (ds_ret (de_if (dt_cmp op_gt op2_Ib (de_callB call_len opA_len rfl B.n_len (by decide +kernel) (da_cons (de_var 5) da_nil)) de_int (nomark _)) (de_ix ix_seq op2_ix (de_var 5) de_int) de_non)))))))
theorem sc_look_size : FnScope N_look_size P_look_size (defScope s_look_size) := ⟨rfl, rfl, rfl, by decide +kernel, rfl, by decide +kernel, by decide +kernel⟩
theorem ok_look_size {f_look_size : Addr} {d_look_size : FuncData} (A_look_size : At K mg "look_size" s_look_size P_look_size f_look_size d_look_size) (B : Gb mg) : FnG P w K mg base CX0 3 f_look_size d_look_size P_look_size (spD none F_look_size) := okD A_look_size.fn sc_look_size fun cdv A outer s H E hr => by
  have nd := sc_look_size.nd
  have hu64 := hr.units
  have hu65 := room65 hr
  exact (dss_one (ds_if (dt_cmp (op_neA hu64) op2_ne (de_var 0) (de_var 1) (nomark _)) dss_never dss_nil))
theorem sc_mirrored : FnScope N_mirrored P_mirrored (defScope s_mirrored) := ⟨rfl, rfl, rfl, by decide +kernel, rfl, by decide +kernel, by decide +kernel⟩
theorem ok_mirrored {f_mirrored : Addr} {d_mirrored : FuncData} (A_mirrored : At K mg "mirrored" s_mirrored P_mirrored f_mirrored d_mirrored) {f_people_of : Addr} {d_people_of : FuncData} (A_people_of : At K mg "people_of" s_people_of P_people_of f_people_of d_people_of) (ok_people_of : FnG P w K mg base CX0 1 f_people_of d_people_of P_people_of (spD none F_people_of)) (B : Gb mg) : FnG P w K mg base CX0 2 f_mirrored d_mirrored P_mirrored (spD none F_mirrored) := okD A_mirrored.fn sc_mirrored fun cdv A outer s H E hr => by
  have nd := sc_mirrored.nd
  have hu64 := hr.units
  have hu65 := room65 hr
  exact (dss_cons (ds_set (i := 1) nd (de_call ok_people_of (hr.mono (by decide)) rfl A_people_of.mg A_people_of.fn.kp A_people_of.bd (da_cons (de_var 0) da_nil)))
    (dss_one (ds_ret (de_callTy call_tuple_of opA_tuple rfl B.n_tuple (by decide +kernel) (da_cons (de_lc (own := [("end", 2)]) rfl nd (di_seq (de_bin op_add' op2_add (de_slice (de_var 0) (do_some (de_var 1)) do_none) (de_slice (de_var 0) do_none (do_some (de_var 1))))) (blkOk_by (N := N_mirrored) (sc := defScope s_mirrored) (by decide +kernel)) (fun _ _ _ _ _ => (dg_name (i := 2) nd)) (fun _ _ _ _ _ => dts_nil) (fun _ _ _ _ _ => (de_bin op_mod op2_mod (de_bin op_add' op2_add (de_var 2) (de_var 1)) (de_bin op_mul' op2_mul de_int (de_var 1))))) da_nil)))))
theorem sc_upper_end_from : FnScope N_upper_end_from P_upper_end_from (defScope s_upper_end_from) := ⟨rfl, rfl, rfl, by decide +kernel, rfl, by decide +kernel, by decide +kernel⟩
theorem ok_upper_end_from {f_upper_end_from : Addr} {d_upper_end_from : FuncData} (A_upper_end_from : At K mg "upper_end_from" s_upper_end_from P_upper_end_from f_upper_end_from d_upper_end_from) (B : Gb mg) : FnG P w K mg base CX0 1 f_upper_end_from d_upper_end_from P_upper_end_from (spD none F_upper_end_from) := okD A_upper_end_from.fn sc_upper_end_from fun cdv A outer s H E hr => by
  have nd := sc_upper_end_from.nd
  have hu64 := hr.units
  have hu65 := room65 hr
  exact (dss_cons (ds_set (i := 4) nd (de_ix ix_seq op2_ix (de_var 0) (de_var 3)))
    (dss_cons (ds_while 1000000 PassesOwn.never (dt_cmp op_ge op2_Ib (de_var 4) (de_var 2) (nomark _)) (dss_cons (ds_set (i := 4) nd (de_ix ix_seq op2_ix (de_var 1) (de_bin op_sub op2_I (de_var 4) (de_var 2))))
    (dss_cons (ds_if (dt_cmp op_ge op2_Ib (de_var 4) (de_var 2) (nomark _)) (dss_one (ds_ret (de_var 4))) dss_nil)
    (dss_one (ds_set (i := 4) nd (de_ix ix_seq op2_ix (de_var 0) (de_bin op_add' op2_add (de_var 2) (de_var 4))))))))
    (dss_one (ds_ret (de_var 4)))))
theorem sc_followed : FnScope N_followed P_followed (defScope s_followed) := ⟨rfl, rfl, rfl, by decide +kernel, rfl, by decide +kernel, by decide +kernel⟩
theorem ok_followed {f_followed : Addr} {d_followed : FuncData} (A_followed : At K mg "followed" s_followed P_followed f_followed d_followed) {f_people_of : Addr} {d_people_of : FuncData} (A_people_of : At K mg "people_of" s_people_of P_people_of f_people_of d_people_of) {f_look_size : Addr} {d_look_size : FuncData} (A_look_size : At K mg "look_size" s_look_size P_look_size f_look_size d_look_size) {f_mirrored : Addr} {d_mirrored : FuncData} (A_mirrored : At K mg "mirrored" s_mirrored P_mirrored f_mirrored d_mirrored) {f_upper_end_from : Addr} {d_upper_end_from : FuncData} (A_upper_end_from : At K mg "upper_end_from" s_upper_end_from P_upper_end_from f_upper_end_from d_upper_end_from) (ok_people_of : FnG P w K mg base CX0 1 f_people_of d_people_of P_people_of (spD none F_people_of)) (ok_look_size : FnG P w K mg base CX0 3 f_look_size d_look_size P_look_size (spD none F_look_size)) (ok_mirrored : FnG P w K mg base CX0 2 f_mirrored d_mirrored P_mirrored (spD none F_mirrored)) (ok_upper_end_from : FnG P w K mg base CX0 1 f_upper_end_from d_upper_end_from P_upper_end_from (spD none F_upper_end_from)) (B : Gb mg) : FnG P w K mg base CX0 4 f_followed d_followed P_followed (spD none F_followed) := okD A_followed.fn sc_followed fun cdv A outer s H E hr => by
  have nd := sc_followed.nd
  have hu64 := hr.units
  have hu65 := room65 hr
  exact (dss_cons (ds_set (i := 2) nd (de_call ok_people_of (hr.mono (by decide)) rfl A_people_of.mg A_people_of.fn.kp A_people_of.bd (da_cons (de_var 0) da_nil)))
    (dss_cons (ds_expr (de_call ok_look_size (hr.mono (by decide)) rfl A_look_size.mg A_look_size.fn.kp A_look_size.bd (da_cons (de_var 2) (da_cons (de_call ok_people_of (hr.mono (by decide)) rfl A_people_of.mg A_people_of.fn.kp A_people_of.bd (da_cons (de_var 1) da_nil)) da_nil))))
    (dss_cons (ds_set (i := 3) nd (de_bin op_add' op2_add (de_lc (own := [("end", 4)]) rfl nd (di_rng1 rfl B.n_range (da_cons (de_var 2) da_nil)) (blkOk_by (N := N_followed) (sc := defScope s_followed) (by decide +kernel)) (fun _ _ _ _ _ => (dg_name (i := 4) nd)) (fun _ _ _ _ _ => dts_nil) (fun _ _ _ _ _ => (de_call ok_upper_end_from (hr.mono (by decide)) rfl A_upper_end_from.mg A_upper_end_from.fn.kp A_upper_end_from.bd (da_cons (de_var 0) (da_cons (de_var 1) (da_cons (de_var 2) (da_cons (de_var 4) da_nil))))))) (de_rep (de_lst (da_cons de_int da_nil)) (de_var 2))))
    (dss_cons (ds_for PassesOwn.never rfl (di_rng1 rfl B.n_range (da_cons (de_var 2) da_nil)) (dg_name (i := 4) nd) (dss_one (ds_if (dt_cmp op_ge op2_Ib (de_ix ix_seq op2_ix (de_var 3) (de_var 4)) (de_var 2) (nomark _)) (dss_one (ds_asg (de_var 4) (dg_sub (j := 3) (de_ix ix_seq op2_ix (de_var 3) (de_var 4))))) dss_nil)))
    (dss_cons (ds_set (i := 5) nd (de_tup (da_cons (de_call ok_mirrored (hr.mono (by decide)) rfl A_mirrored.mg A_mirrored.fn.kp A_mirrored.bd (da_cons (de_var 1) da_nil)) (da_cons (de_call ok_mirrored (hr.mono (by decide)) rfl A_mirrored.mg A_mirrored.fn.kp A_mirrored.bd (da_cons (de_var 0) da_nil)) da_nil))))
    (dss_cons (ds_for PassesOwn.never rfl (di_rng1 rfl B.n_range (da_cons (de_var 2) da_nil)) (dg_name (i := 4) nd) (dss_cons (ds_set (i := 6) nd (de_call ok_upper_end_from (hr.mono (by decide)) rfl A_upper_end_from.mg A_upper_end_from.fn.kp A_upper_end_from.bd (da_cons (de_ix ix_seq op2_ix (de_var 5) de_int) (da_cons (de_ix ix_seq op2_ix (de_var 5) de_int) (da_cons (de_var 2) (da_cons (de_var 4) da_nil))))))
    (dss_one (ds_if (dt_cmp op_lt op2_Ib (de_var 6) (de_var 2) (nomark _)) (dss_one (ds_asg (de_bin op_add' op2_add (de_var 2) (de_var 6)) (dg_sub (j := 3) (de_bin op_add' op2_add (de_var 2) (de_var 4))))) dss_nil))))
    (dss_one (ds_ret (de_callTy call_tuple_of opA_tuple rfl B.n_tuple (by decide +kernel) (da_cons (de_var 3) da_nil))))))))))
theorem sc_sheet_settles : FnScope N_sheet_settles P_sheet_settles (defScope s_sheet_settles) := ⟨rfl, rfl, rfl, by decide +kernel, rfl, by decide +kernel, by decide +kernel⟩
theorem ok_sheet_settles {f_sheet_settles : Addr} {d_sheet_settles : FuncData} (A_sheet_settles : At K mg "sheet_settles" s_sheet_settles P_sheet_settles f_sheet_settles d_sheet_settles) {f_sheet_of : Addr} {d_sheet_of : FuncData} (A_sheet_of : At K mg "sheet_of" s_sheet_of P_sheet_of f_sheet_of d_sheet_of) {f_empty_sheet : Addr} {d_empty_sheet : FuncData} (A_empty_sheet : At K mg "empty_sheet" s_empty_sheet P_empty_sheet f_empty_sheet d_empty_sheet) {f_followed : Addr} {d_followed : FuncData} (A_followed : At K mg "followed" s_followed P_followed f_followed d_followed) (ok_sheet_of : FnG P w K mg base CX0 6 f_sheet_of d_sheet_of P_sheet_of (spD none F_sheet_of)) (ok_empty_sheet : FnG P w K mg base CX0 1 f_empty_sheet d_empty_sheet P_empty_sheet (spD none F_empty_sheet)) (ok_followed : FnG P w K mg base CX0 4 f_followed d_followed P_followed (spD none F_followed)) (B : Gb mg) : FnG P w K mg base CX0 7 f_sheet_settles d_sheet_settles P_sheet_settles (spD none F_sheet_settles) := okD A_sheet_settles.fn sc_sheet_settles fun cdv A outer s H E hr => by
  have nd := sc_sheet_settles.nd
  have hu64 := hr.units
  have hu65 := room65 hr
  exact (dss_cons (ds_par3 (i := 2) (j := 3) (l := 4) rfl nd (da_cons (de_call ok_sheet_of (hr.mono (by decide)) rfl A_sheet_of.mg A_sheet_of.fn.kp A_sheet_of.bd (da_cons (de_var 0) (da_cons (de_var 1) da_nil))) (da_cons (de_call ok_empty_sheet (hr.mono (by decide)) rfl A_empty_sheet.mg A_empty_sheet.fn.kp A_empty_sheet.bd (da_cons (de_var 0) da_nil)) (da_cons de_dct0T da_nil))))
    (dss_cons (ds_while 1000000 PassesOwn.never (dt_cmp (op_dnin hu64) op2_dnin (de_var 3) (de_var 4) (by with_unfolding_all rfl)) (dss_cons (ds_asg (de_callB call_lenDD opA_dlen rfl B.n_len (by decide +kernel) (da_cons (de_var 4) da_nil)) (dg_dput (j := 4) hu64 (de_var 3)))
    (dss_one (ds_set (i := 3) nd (de_call ok_followed (hr.mono (by decide)) rfl A_followed.mg A_followed.fn.kp A_followed.bd (da_cons (de_var 3) (da_cons (de_var 2) da_nil)))))))
    (dss_one (ds_ret (de_tup (da_cons (de_ix (ix_dict hu64) op2_dget (de_var 4) (de_var 3)) (da_cons (de_bin op_sub op2_I (de_callB call_lenDD opA_dlen rfl B.n_len (by decide +kernel) (da_cons (de_var 4) da_nil)) (de_ix (ix_dict hu64) op2_dget (de_var 4) (de_var 3))) da_nil)))))))
theorem sc_times : FnScope N_times P_times (defScope s_times) := ⟨rfl, rfl, rfl, by decide +kernel, rfl, by decide +kernel, by decide +kernel⟩
theorem ok_times {f_times : Addr} {d_times : FuncData} (A_times : At K mg "times" s_times P_times f_times d_times) {f_empty_sheet : Addr} {d_empty_sheet : FuncData} (A_empty_sheet : At K mg "empty_sheet" s_empty_sheet P_empty_sheet f_empty_sheet d_empty_sheet) {f_people_of : Addr} {d_people_of : FuncData} (A_people_of : At K mg "people_of" s_people_of P_people_of f_people_of d_people_of) {f_followed : Addr} {d_followed : FuncData} (A_followed : At K mg "followed" s_followed P_followed f_followed d_followed) (ok_empty_sheet : FnG P w K mg base CX0 1 f_empty_sheet d_empty_sheet P_empty_sheet (spD none F_empty_sheet)) (ok_people_of : FnG P w K mg base CX0 1 f_people_of d_people_of P_people_of (spD none F_people_of)) (ok_followed : FnG P w K mg base CX0 4 f_followed d_followed P_followed (spD none F_followed)) (B : Gb mg) : FnG P w K mg base CX0 5 f_times d_times P_times (spD none F_times) := okD A_times.fn sc_times fun cdv A outer s H E hr => by
  have nd := sc_times.nd
  have hu64 := hr.units
  have hu65 := room65 hr
  exact (dss_cons (ds_par3 (i := 2) (j := 3) (l := 4) rfl nd (da_cons (de_call ok_empty_sheet (hr.mono (by decide)) rfl A_empty_sheet.mg A_empty_sheet.fn.kp A_empty_sheet.bd (da_cons (de_call ok_people_of (hr.mono (by decide)) rfl A_people_of.mg A_people_of.fn.kp A_people_of.bd (da_cons (de_var 0) da_nil)) da_nil)) (da_cons (de_callTy call_tuple_of opA_tuple rfl B.n_tuple (by decide +kernel) (da_cons (de_var 0) da_nil)) (da_cons (de_var 1) da_nil))))
    (dss_cons (ds_while 1000000 PassesOwn.never (dt_cmp op_gt op2_Ib (de_var 4) de_int (nomark _)) (dss_cons (ds_if (dt_cmp (op_eqA hu64) op2_eq (de_bin op_mod op2_mod (de_var 4) de_int) de_int (nomark _)) (dss_one (ds_set (i := 2) nd (de_call ok_followed (hr.mono (by decide)) rfl A_followed.mg A_followed.fn.kp A_followed.bd (da_cons (de_var 2) (da_cons (de_var 3) da_nil))))) dss_nil)
    (dss_one (ds_par (i := 3) (j := 4) rfl nd (da_cons (de_call ok_followed (hr.mono (by decide)) rfl A_followed.mg A_followed.fn.kp A_followed.bd (da_cons (de_var 3) (da_cons (de_var 3) da_nil))) (da_cons (de_bin op_fdiv' op2_fdiv (de_var 4) de_int) da_nil))))))
    (dss_one (ds_ret (de_var 2)))))
theorem sc_repeated : FnScope N_repeated P_repeated (defScope s_repeated) := ⟨rfl, rfl, rfl, by decide +kernel, rfl, by decide +kernel, by decide +kernel⟩
theorem ok_repeated {f_repeated : Addr} {d_repeated : FuncData} (A_repeated : At K mg "repeated" s_repeated P_repeated f_repeated d_repeated) {f_result_of : Addr} {d_result_of : FuncData} (A_result_of : At K mg "result_of" s_result_of P_result_of f_result_of d_result_of) {f_times : Addr} {d_times : FuncData} (A_times : At K mg "times" s_times P_times f_times d_times) {f_sheet_of : Addr} {d_sheet_of : FuncData} (A_sheet_of : At K mg "sheet_of" s_sheet_of P_sheet_of f_sheet_of d_sheet_of) (ok_result_of : FnG P w K mg base CX0 2 f_result_of d_result_of P_result_of (spD none F_result_of)) (ok_times : FnG P w K mg base CX0 5 f_times d_times P_times (spD none F_times)) (ok_sheet_of : FnG P w K mg base CX0 6 f_sheet_of d_sheet_of P_sheet_of (spD none F_sheet_of)) (B : Gb mg) : FnG P w K mg base CX0 7 f_repeated d_repeated P_repeated (spD none F_repeated) := okD A_repeated.fn sc_repeated fun cdv A outer s H E hr => by
  have nd := sc_repeated.nd
  have hu64 := hr.units
  have hu65 := room65 hr
  exact (dss_one (ds_ret (de_call ok_result_of (hr.mono (by decide)) rfl A_result_of.mg A_result_of.fn.kp A_result_of.bd (da_cons (de_call ok_times (hr.mono (by decide)) rfl A_times.mg A_times.fn.kp A_times.bd (da_cons (de_call ok_sheet_of (hr.mono (by decide)) rfl A_sheet_of.mg A_sheet_of.fn.kp A_sheet_of.bd (da_cons (de_callB call_len opA_len rfl B.n_len (by decide +kernel) (da_cons (de_var 0) da_nil)) (da_cons (de_var 1) da_nil))) (da_cons (de_var 2) da_nil))) (da_cons (de_var 0) da_nil)))))
theorem sc_law_right : FnScope N_law_right P_law_right (defScope s_law_right) := ⟨rfl, rfl, rfl, by decide +kernel, rfl, by decide +kernel, by decide +kernel⟩
theorem ok_law_right {f_law_right : Addr} {d_law_right : FuncData} (A_law_right : At K mg "_law_right" s_law_right P_law_right f_law_right d_law_right) {f_word_for : Addr} {d_word_for : FuncData} (A_word_for : At K mg "word_for" s_word_for P_word_for f_word_for d_word_for) {f_law_with : Addr} {d_law_with : FuncData} (A_law_with : At K mg "_law_with" s_law_with P_law_with f_law_with d_law_with) {f_law_led_web : Addr} {d_law_led_web : FuncData} (A_law_led_web : At K mg "_law_led_web" s_law_led_web P_law_led_web f_law_led_web d_law_led_web) {f_law_same : Addr} {d_law_same : FuncData} (A_law_same : At K mg "_law_same" s_law_same P_law_same f_law_same d_law_same) {f_settles : Addr} {d_settles : FuncData} (A_settles : At K mg "settles" s_settles P_settles f_settles d_settles) {f_law_take : Addr} {d_law_take : FuncData} (A_law_take : At K mg "_law_take" s_law_take P_law_take f_law_take d_law_take) {f_first_time : Addr} {d_first_time : FuncData} (A_first_time : At K mg "first_time" s_first_time P_first_time f_first_time d_first_time) {f_sheet_settles : Addr} {d_sheet_settles : FuncData} (A_sheet_settles : At K mg "sheet_settles" s_sheet_settles P_sheet_settles f_sheet_settles d_sheet_settles) {f_repeated : Addr} {d_repeated : FuncData} (A_repeated : At K mg "repeated" s_repeated P_repeated f_repeated d_repeated) (ok_word_for : FnG P w K mg base CX0 7 f_word_for d_word_for P_word_for (spD none F_word_for)) (ok_law_with : FnG P w K mg base CX0 1 f_law_with d_law_with P_law_with (spD none F_law_with)) (ok_law_led_web : FnG P w K mg base CX0 1 f_law_led_web d_law_led_web P_law_led_web (spD none F_law_led_web)) (ok_law_same : FnG P w K mg base CX0 6 f_law_same d_law_same P_law_same (spD none (F_law_same 5))) (ok_settles : FnG P w K mg base CX0 8 f_settles d_settles P_settles (spD none F_settles)) (ok_law_take : FnG P w K mg base CX0 4 f_law_take d_law_take P_law_take (spD (some 0) (F_law_take 3))) (ok_first_time : FnG P w K mg base CX0 8 f_first_time d_first_time P_first_time (spD none F_first_time)) (ok_sheet_settles : FnG P w K mg base CX0 7 f_sheet_settles d_sheet_settles P_sheet_settles (spD none F_sheet_settles)) (ok_repeated : FnG P w K mg base CX0 7 f_repeated d_repeated P_repeated (spD none F_repeated)) (B : Gb mg) : FnG P w K mg base CX0 9 f_law_right d_law_right P_law_right (spD (some 0) F_law_right) := okD A_law_right.fn sc_law_right fun cdv A outer s H E hr => by
  have nd := sc_law_right.nd
  have hu64 := hr.units
  have hu65 := room65 hr
  exact (dss_cons (ds_set (i := 1) nd (de_bin op_add' op2_add de_int (de_bin op_mul' op2_mul de_int (de_call ok_law_take (hr.mono (by decide)) rfl A_law_take.mg A_law_take.fn.kp A_law_take.bd (da_cons (de_var 0) (da_cons de_int da_nil))))))
    (dss_cons (ds_set (i := 2) nd (de_bin op_sub op2_I (de_var 1) de_int))
    (dss_cons (ds_set (i := 3) nd (de_call ok_word_for (hr.mono (by decide)) rfl A_word_for.mg A_word_for.fn.kp A_word_for.bd (da_cons (de_call ok_law_led_web (hr.mono (by decide)) rfl A_law_led_web.mg A_law_led_web.fn.kp A_law_led_web.bd (da_cons (de_var 1) (da_cons (de_lc (own := [("_law_at", 14)]) rfl nd (di_rng1 rfl B.n_range (da_cons (de_var 2) da_nil)) (blkOk_by (N := N_law_right) (sc := defScope s_law_right) (by decide +kernel)) (fun _ _ _ _ _ => (dg_name (i := 14) nd)) (fun _ _ _ _ _ => dts_nil) (fun _ _ _ _ _ => (de_bin op_mod op2_mod (de_bin op_add' op2_add (de_var 14) de_int) (de_var 2)))) da_nil))) da_nil)))
    (dss_cons (ds_if (dt_not (dt_val (de_call ok_law_same (hr.mono (by decide)) rfl A_law_same.mg A_law_same.fn.kp A_law_same.bd (da_cons (de_call ok_sheet_settles (hr.mono (by decide)) rfl A_sheet_settles.mg A_sheet_settles.fn.kp A_sheet_settles.bd (da_cons (de_var 1) (da_cons (de_var 3) da_nil))) (da_cons (de_tup (da_cons de_int (da_cons (de_var 2) da_nil))) da_nil))))) (dss_one (ds_ret de_bl)) dss_nil)
    (dss_cons (ds_setLc (i := 4) (own := [("_law_at", 14)]) rfl nd (di_rng1 rfl B.n_range (da_cons (de_bin op_fdiv' op2_fdiv (de_var 2) de_int) da_nil)) (blkOk_by (N := N_law_right) (sc := defScope s_law_right) (by decide +kernel)) (fun _ _ _ _ _ => (dg_name (i := 14) nd)) (fun _ _ _ _ _ => dts_nil) (fun _ _ _ _ _ => (de_tup (da_cons (de_bin op_mul' op2_mul de_int (de_var 14)) (da_cons (de_bin op_add' op2_add (de_bin op_mul' op2_mul de_int (de_var 14)) de_int) da_nil)))) (sw_true rfl rfl rfl (by decide +kernel)))
    (dss_cons (ds_set (i := 5) nd (de_call ok_law_with (hr.mono (by decide)) rfl A_law_with.mg A_law_with.fn.kp A_law_with.bd (da_cons (de_var 1) (da_cons (de_lc (own := [("_law_low", 15), ("_law_high", 16)]) rfl nd (di_seq (de_var 4)) (blkOk_by (N := N_law_right) (sc := defScope s_law_right) (by decide +kernel)) (fun _ _ _ _ _ => (dg_tup (n := 2) rfl (dgs_cons (dg_name (i := 15) nd) (dgs_cons (dg_name (i := 16) nd) dgs_nil)))) (fun _ _ _ _ _ => dts_nil) (fun _ _ _ _ _ => (de_tup (da_cons (de_bin op_mod op2_mod (de_bin op_add' op2_add (de_var 15) de_int) (de_var 2)) (da_cons (de_bin op_mod op2_mod (de_bin op_add' op2_add (de_var 16) de_int) (de_var 2)) da_nil))))) da_nil))))
    (dss_cons (ds_par (i := 6) (j := 7) rfl nd (da_cons (de_call ok_law_with (hr.mono (by decide)) rfl A_law_with.mg A_law_with.fn.kp A_law_with.bd (da_cons (de_var 1) (da_cons (de_var 4) da_nil))) (da_cons (de_call ok_law_with (hr.mono (by decide)) rfl A_law_with.mg A_law_with.fn.kp A_law_with.bd (da_cons (de_var 1) (da_cons (de_lc (own := [("_law_at", 14)]) rfl nd (di_rng1 rfl B.n_range (da_cons (de_bin op_fdiv' op2_fdiv (de_var 2) de_int) da_nil)) (blkOk_by (N := N_law_right) (sc := defScope s_law_right) (by decide +kernel)) (fun _ _ _ _ _ => (dg_name (i := 14) nd)) (fun _ _ _ _ _ => dts_nil) (fun _ _ _ _ _ => (de_tup (da_cons (de_var 14) (da_cons (de_bin op_add' op2_add (de_var 14) (de_bin op_fdiv' op2_fdiv (de_var 2) de_int)) da_nil))))) da_nil))) da_nil)))
    (dss_cons (ds_set (i := 8) nd (de_if (dt_cmp (op_eqA hu64) op2_eq (de_var 2) de_int (nomark _)) de_int de_int))
    (dss_cons (ds_setLc (i := 9) (own := [("_law_some", 17)]) rfl nd (di_seq (de_tup (da_cons (de_var 6) (da_cons (de_var 7) (da_cons (de_var 5) da_nil))))) (blkOk_by (N := N_law_right) (sc := defScope s_law_right) (by decide +kernel)) (fun _ _ _ _ _ => (dg_name (i := 17) nd)) (fun _ _ _ _ _ => dts_nil) (fun _ _ _ _ _ => (de_call ok_settles (hr.mono (by decide)) rfl A_settles.mg A_settles.fn.kp A_settles.bd (da_cons (de_var 17) (da_cons (de_var 3) da_nil)))) (sw_true rfl rfl rfl (by decide +kernel)))
    (dss_cons (ds_if (dt_not (dt_val (de_call ok_law_same (hr.mono (by decide)) rfl A_law_same.mg A_law_same.fn.kp A_law_same.bd (da_cons (de_var 9) (da_cons (de_lst (da_cons (de_tup (da_cons de_int (da_cons (de_var 8) da_nil))) (da_cons (de_tup (da_cons de_int (da_cons de_int da_nil))) (da_cons (de_tup (da_cons de_int (da_cons (de_var 8) da_nil))) da_nil)))) da_nil))))) (dss_one (ds_ret de_bl)) dss_nil)
    (dss_cons (ds_for PassesOwn.never rfl (di_seq (de_tup (by refine da_cons ?_ ?_; exact de_int; refine da_cons ?_ ?_; exact de_int; refine da_cons ?_ ?_; exact de_int; refine da_cons ?_ ?_; exact (de_bin op_pow op2_pow de_int de_int); refine da_cons ?_ ?_; exact (de_bin op_sub op2_I (de_bin op_pow op2_pow de_int de_int) de_int); refine da_cons ?_ ?_; exact (de_call ok_law_take (hr.mono (by decide)) rfl A_law_take.mg A_law_take.fn.kp A_law_take.bd (da_cons (de_var 0) (da_cons (de_bin op_pow op2_pow de_int de_int) da_nil))); exact da_nil))) (dg_name (i := 10) nd) (dss_cons (ds_set (i := 11) nd (de_lst (da_cons (de_if (dt_cmp (op_eqA hu64) op2_eq (de_bin op_mod op2_mod (de_var 10) de_int) de_int (nomark _)) (de_var 6) (de_var 5)) (da_cons (de_var 7) da_nil))))
    (dss_one (ds_if (dt_cmp (op_neA hu64) op2_ne (de_lc (own := [("_law_some", 17)]) rfl nd (di_seq (de_tup (da_cons (de_var 6) (da_cons (de_var 7) da_nil)))) (blkOk_by (N := N_law_right) (sc := defScope s_law_right) (by decide +kernel)) (fun _ _ _ _ _ => (dg_name (i := 17) nd)) (fun _ _ _ _ _ => dts_nil) (fun _ _ _ _ _ => (de_call ok_repeated (hr.mono (by decide)) rfl A_repeated.mg A_repeated.fn.kp A_repeated.bd (da_cons (de_var 17) (da_cons (de_var 3) (da_cons (de_var 10) da_nil)))))) (de_var 11) (nomark _)) (dss_one (ds_ret de_bl)) dss_nil))))
    (dss_cons (ds_set (i := 9) nd (de_lst (da_cons (de_call ok_first_time (hr.mono (by decide)) rfl A_first_time.mg A_first_time.fn.kp A_first_time.bd (da_cons (de_var 6) (da_cons (de_var 3) (da_cons de_int (da_cons de_int da_nil))))) (da_cons (de_call ok_first_time (hr.mono (by decide)) rfl A_first_time.mg A_first_time.fn.kp A_first_time.bd (da_cons (de_var 6) (da_cons (de_var 3) (da_cons de_int (da_cons de_int da_nil))))) (da_cons (de_call ok_first_time (hr.mono (by decide)) rfl A_first_time.mg A_first_time.fn.kp A_first_time.bd (da_cons (de_var 6) (da_cons (de_var 3) (da_cons de_int (da_cons de_int da_nil))))) da_nil)))))
    (dss_cons (ds_if (dt_not (dt_val (de_call ok_law_same (hr.mono (by decide)) rfl A_law_same.mg A_law_same.fn.kp A_law_same.bd (da_cons (de_bin op_add' op2_add (de_var 9) (de_lst (da_cons (de_call ok_first_time (hr.mono (by decide)) rfl A_first_time.mg A_first_time.fn.kp A_first_time.bd (da_cons (de_var 6) (da_cons (de_var 3) (da_cons de_int (da_cons (de_bin op_sub op2_I (de_var 1) de_int) da_nil))))) da_nil))) (da_cons (de_lst (da_cons de_int (da_cons de_int (da_cons de_non (da_cons (de_if (dt_cmp (op_eqA hu64) op2_eq (de_var 2) de_int (nomark _)) de_int de_int) da_nil))))) da_nil))))) (dss_one (ds_ret de_bl)) dss_nil)
    (dss_cons (ds_setLc (i := 12) (own := [("_law_at", 14)]) rfl nd (di_rng1 rfl B.n_range (da_cons (de_bin op_fdiv' op2_fdiv (de_var 1) de_int) da_nil)) (blkOk_by (N := N_law_right) (sc := defScope s_law_right) (by decide +kernel)) (fun _ _ _ _ _ => (dg_name (i := 14) nd)) (fun _ _ _ _ _ => dts_nil) (fun _ _ _ _ _ => (de_tup (da_cons (de_bin op_mul' op2_mul de_int (de_var 14)) (da_cons (de_bin op_add' op2_add (de_bin op_mul' op2_mul de_int (de_var 14)) de_int) da_nil)))) (sw_true rfl rfl rfl (by decide +kernel)))
    (dss_cons (ds_set (i := 13) nd (de_callTy call_tuple_of opA_tuple rfl B.n_tuple (by decide +kernel) (da_cons (de_lc (own := [("_law_who", 18)]) rfl nd (di_rng1 rfl B.n_range (da_cons (de_var 1) da_nil)) (blkOk_by (N := N_law_right) (sc := defScope s_law_right) (by decide +kernel)) (fun _ _ _ _ _ => (dg_name (i := 18) nd)) (fun _ _ _ _ _ => dts_nil) (fun _ _ _ _ _ => (de_bin op_sub op2_I (de_bin op_sub op2_I (de_var 1) de_int) (de_var 18)))) da_nil)))
    (dss_cons (ds_set (i := 9) nd (de_lst (da_cons (de_call ok_settles (hr.mono (by decide)) rfl A_settles.mg A_settles.fn.kp A_settles.bd (da_cons (de_var 13) (da_cons (de_var 12) da_nil))) (da_cons (de_call ok_sheet_settles (hr.mono (by decide)) rfl A_sheet_settles.mg A_sheet_settles.fn.kp A_sheet_settles.bd (da_cons (de_var 1) (da_cons (de_var 12) da_nil))) (da_cons (de_call ok_repeated (hr.mono (by decide)) rfl A_repeated.mg A_repeated.fn.kp A_repeated.bd (da_cons (de_var 13) (da_cons (de_var 12) (da_cons (de_bin op_pow op2_pow de_int de_int) da_nil)))) da_nil)))))
    (dss_one (ds_ret (de_and (de_call ok_law_same (hr.mono (by decide)) rfl A_law_same.mg A_law_same.fn.kp A_law_same.bd (da_cons (de_var 9) (da_cons (de_lst (da_cons (de_tup (da_cons de_int (da_cons de_int da_nil))) (da_cons (de_tup (da_cons de_int (da_cons de_int da_nil))) (da_cons (de_var 6) da_nil)))) da_nil))) (de_one (de_cmp (op_eqA hu64) op2_eq (de_call ok_first_time (hr.mono (by decide)) rfl A_first_time.mg A_first_time.fn.kp A_first_time.bd (da_cons (de_var 13) (da_cons (de_var 12) (da_cons de_int (da_cons de_int da_nil))))) de_int (nomark _))))))))))))))))))))))
theorem sc_law_box : FnScope N_law_box P_law_box (defScope s_law_box) := ⟨rfl, rfl, rfl, by decide +kernel, rfl, by decide +kernel, by decide +kernel⟩
theorem ok_law_box {f_law_box : Addr} {d_law_box : FuncData} (A_law_box : At K mg "_law_box" s_law_box P_law_box f_law_box d_law_box) (B : Gb mg) : FnG P w K mg base CX0 1 f_law_box d_law_box P_law_box (spD none F_law_box) := okD A_law_box.fn sc_law_box fun cdv A outer s H E hr => by
  have nd := sc_law_box.nd
  have hu64 := hr.units
  have hu65 := room65 hr
  exact (dss_cons (ds_set (i := 2) nd (de_if (dt_cmp op_lt op2_Ib (de_var 1) (de_callB call_len opA_len rfl B.n_len (by decide +kernel) (da_cons (de_var 0) da_nil)) (nomark _)) (de_ix ix_seq op2_ix (de_var 0) (de_var 1)) de_int))
    (dss_one (ds_ret (de_lst (da_cons (de_bin op_mul' op2_mul (de_callB call_abs opA_abs rfl B.n_abs (by decide +kernel) (da_cons (de_var 2) da_nil)) (de_callTy call_int1 opA_int rfl B.n_int (by decide +kernel) (da_cons (de_cmp op_ge op2_Ib (de_callB call_abs opA_abs rfl B.n_abs (by decide +kernel) (da_cons (de_var 2) da_nil)) (de_bin op_pow op2_pow de_int de_int) (nomark _)) da_nil))) (da_cons (de_bin op_add' op2_add (de_bin op_add' op2_add (de_bin op_mod op2_mod (de_var 2) de_int) (de_bin op_mul' op2_mul de_int (de_var 1))) de_int) (da_cons de_int da_nil)))))))
theorem sc_law : FnScope N_law P_law (defScope s_law) := ⟨rfl, rfl, rfl, by decide +kernel, rfl, by decide +kernel, by decide +kernel⟩
theorem ok_law {f_law : Addr} {d_law : FuncData} (A_law : At K mg "law" s_law P_law f_law d_law) {f_law_right : Addr} {d_law_right : FuncData} (A_law_right : At K mg "_law_right" s_law_right P_law_right f_law_right d_law_right) {f_law_box : Addr} {d_law_box : FuncData} (A_law_box : At K mg "_law_box" s_law_box P_law_box f_law_box d_law_box) (ok_law_right : FnG P w K mg base CX0 9 f_law_right d_law_right P_law_right (spD (some 0) F_law_right)) (ok_law_box : FnG P w K mg base CX0 1 f_law_box d_law_box P_law_box (spD none F_law_box)) (B : Gb mg) : FnG P w K mg base CX0 10 f_law d_law P_law (spD none F_law) := okD A_law.fn sc_law fun cdv A outer s H E hr => by
  have nd := sc_law.nd
  have hu64 := hr.units
  have hu65 := room65 hr
  exact (dss_one (ds_ret (de_callB (cr_all rfl) opA_all rfl B.n_all (by decide +kernel) (da_cons (de_lc (own := [("_law_k", 1)]) rfl nd (di_rng1 rfl B.n_range (da_cons (de_bin op_add' op2_add de_int (de_callB (call_minA rfl) opA_min rfl B.n_min (by decide +kernel) (da_cons de_int (da_cons (de_callB call_len opA_len rfl B.n_len (by decide +kernel) (da_cons (de_var 0) da_nil)) da_nil)))) da_nil)) (blkOk_by (N := N_law) (sc := defScope s_law) (by decide +kernel)) (fun _ _ _ _ _ => (dg_name (i := 1) nd)) (fun _ _ _ _ _ => dts_nil) (fun _ _ _ _ _ => (de_callF ok_law_right (hr.mono (by decide)) rfl A_law_right.mg A_law_right.fn.kp A_law_right.bd (de_call ok_law_box (hr.mono (by decide)) rfl A_law_box.mg A_law_box.fn.kp A_law_box.bd (da_cons (de_var 0) (da_cons (de_var 1) da_nil)))))) da_nil))))
end
section
theorem all_mk {l : PySem.W.OpenLaw} {w : World} {K : PySem.W.Frag} {h : Heap} {mg : Str → Option Value} {fa : Addr} (X : K.In h) (G : h.Ns mainGlobals mg) (hfa : mg "law" = some (.ref fa))
    {f_empty_sheet : Addr} {o_empty_sheet n_empty_sheet : Option Addr} {sl_empty_sheet : Array (Option Value)} {c_empty_sheet kV_empty_sheet dc_empty_sheet pm_empty_sheet cd_empty_sheet ct_empty_sheet : Value} {f_people_of : Addr} {o_people_of n_people_of : Option Addr} {sl_people_of : Array (Option Value)} {c_people_of kV_people_of dc_people_of pm_people_of cd_people_of ct_people_of : Value} {f_lower_pairs : Addr} {o_lower_pairs n_lower_pairs : Option Addr} {sl_lower_pairs : Array (Option Value)} {c_lower_pairs kV_lower_pairs dc_lower_pairs pm_lower_pairs cd_lower_pairs ct_lower_pairs : Value} {f_has_word : Addr} {o_has_word n_has_word : Option Addr} {sl_has_word : Array (Option Value)} {c_has_word kV_has_word dc_has_word pm_has_word cd_has_word ct_has_word : Value} {f_look_word_of : Addr} {o_look_word_of n_look_word_of : Option Addr} {sl_look_word_of : Array (Option Value)} {c_look_word_of kV_look_word_of dc_look_word_of pm_look_word_of cd_look_word_of ct_look_word_of : Value} {f_loop_from : Addr} {o_loop_from n_loop_from : Option Addr} {sl_loop_from : Array (Option Value)} {c_loop_from kV_loop_from dc_loop_from pm_loop_from cd_loop_from ct_loop_from : Value} {f_loops : Addr} {o_loops n_loops : Option Addr} {sl_loops : Array (Option Value)} {c_loops kV_loops dc_loops pm_loops cd_loops ct_loops : Value} {f_pure_loops : Addr} {o_pure_loops n_pure_loops : Option Addr} {sl_pure_loops : Array (Option Value)} {c_pure_loops kV_pure_loops dc_pure_loops pm_pure_loops cd_pure_loops ct_pure_loops : Value} {f_fewest_calls : Addr} {o_fewest_calls n_fewest_calls : Option Addr} {sl_fewest_calls : Array (Option Value)} {c_fewest_calls kV_fewest_calls dc_fewest_calls pm_fewest_calls cd_fewest_calls ct_fewest_calls : Value} {f_with_joins : Addr} {o_with_joins n_with_joins : Option Addr} {sl_with_joins : Array (Option Value)} {c_with_joins kV_with_joins dc_with_joins pm_with_joins cd_with_joins ct_with_joins : Value} {f_before_pair : Addr} {o_before_pair n_before_pair : Option Addr} {sl_before_pair : Array (Option Value)} {c_before_pair kV_before_pair dc_before_pair pm_before_pair cd_before_pair ct_before_pair : Value} {f_before_call : Addr} {o_before_call n_before_call : Option Addr} {sl_before_call : Array (Option Value)} {c_before_call kV_before_call dc_before_call pm_before_call cd_before_call ct_before_call : Value} {f_word_for : Addr} {o_word_for n_word_for : Option Addr} {sl_word_for : Array (Option Value)} {c_word_for kV_word_for dc_word_for pm_word_for cd_word_for ct_word_for : Value} {f_law_with : Addr} {o_law_with n_law_with : Option Addr} {sl_law_with : Array (Option Value)} {c_law_with kV_law_with dc_law_with pm_law_with cd_law_with ct_law_with : Value} {f_law_led_web : Addr} {o_law_led_web n_law_led_web : Option Addr} {sl_law_led_web : Array (Option Value)} {c_law_led_web kV_law_led_web dc_law_led_web pm_law_led_web cd_law_led_web ct_law_led_web : Value} {f_law_same : Addr} {o_law_same n_law_same : Option Addr} {sl_law_same : Array (Option Value)} {c_law_same kV_law_same dc_law_same pm_law_same cd_law_same ct_law_same : Value} {f_look_person : Addr} {o_look_person n_look_person : Option Addr} {sl_look_person : Array (Option Value)} {c_look_person kV_look_person dc_look_person pm_look_person cd_look_person ct_look_person : Value} {f_look_call : Addr} {o_look_call n_look_call : Option Addr} {sl_look_call : Array (Option Value)} {c_look_call kV_look_call dc_look_call pm_look_call cd_look_call ct_look_call : Value} {f_look_word : Addr} {o_look_word n_look_word : Option Addr} {sl_look_word : Array (Option Value)} {c_look_word kV_look_word dc_look_word pm_look_word cd_look_word ct_look_word : Value} {f_added : Addr} {o_added n_added : Option Addr} {sl_added : Array (Option Value)} {c_added kV_added dc_added pm_added cd_added ct_added : Value} {f_sheet_of : Addr} {o_sheet_of n_sheet_of : Option Addr} {sl_sheet_of : Array (Option Value)} {c_sheet_of kV_sheet_of dc_sheet_of pm_sheet_of cd_sheet_of ct_sheet_of : Value} {f_ends_from : Addr} {o_ends_from n_ends_from : Option Addr} {sl_ends_from : Array (Option Value)} {c_ends_from kV_ends_from dc_ends_from pm_ends_from cd_ends_from ct_ends_from : Value} {f_result_of : Addr} {o_result_of n_result_of : Option Addr} {sl_result_of : Array (Option Value)} {c_result_of kV_result_of dc_result_of pm_result_of cd_result_of ct_result_of : Value} {f_pairings_met : Addr} {o_pairings_met n_pairings_met : Option Addr} {sl_pairings_met : Array (Option Value)} {c_pairings_met kV_pairings_met dc_pairings_met pm_pairings_met cd_pairings_met ct_pairings_met : Value} {f_settles : Addr} {o_settles n_settles : Option Addr} {sl_settles : Array (Option Value)} {c_settles kV_settles dc_settles pm_settles cd_settles ct_settles : Value} {f_law_take : Addr} {o_law_take n_law_take : Option Addr} {sl_law_take : Array (Option Value)} {c_law_take kV_law_take dc_law_take pm_law_take cd_law_take ct_law_take : Value} {f_first_time : Addr} {o_first_time n_first_time : Option Addr} {sl_first_time : Array (Option Value)} {c_first_time kV_first_time dc_first_time pm_first_time cd_first_time ct_first_time : Value} {f_look_size : Addr} {o_look_size n_look_size : Option Addr} {sl_look_size : Array (Option Value)} {c_look_size kV_look_size dc_look_size pm_look_size cd_look_size ct_look_size : Value} {f_mirrored : Addr} {o_mirrored n_mirrored : Option Addr} {sl_mirrored : Array (Option Value)} {c_mirrored kV_mirrored dc_mirrored pm_mirrored cd_mirrored ct_mirrored : Value} {f_upper_end_from : Addr} {o_upper_end_from n_upper_end_from : Option Addr} {sl_upper_end_from : Array (Option Value)} {c_upper_end_from kV_upper_end_from dc_upper_end_from pm_upper_end_from cd_upper_end_from ct_upper_end_from : Value} {f_followed : Addr} {o_followed n_followed : Option Addr} {sl_followed : Array (Option Value)} {c_followed kV_followed dc_followed pm_followed cd_followed ct_followed : Value} {f_sheet_settles : Addr} {o_sheet_settles n_sheet_settles : Option Addr} {sl_sheet_settles : Array (Option Value)} {c_sheet_settles kV_sheet_settles dc_sheet_settles pm_sheet_settles cd_sheet_settles ct_sheet_settles : Value} {f_times : Addr} {o_times n_times : Option Addr} {sl_times : Array (Option Value)} {c_times kV_times dc_times pm_times cd_times ct_times : Value} {f_repeated : Addr} {o_repeated n_repeated : Option Addr} {sl_repeated : Array (Option Value)} {c_repeated kV_repeated dc_repeated pm_repeated cd_repeated ct_repeated : Value} {f_law_right : Addr} {o_law_right n_law_right : Option Addr} {sl_law_right : Array (Option Value)} {c_law_right kV_law_right dc_law_right pm_law_right cd_law_right ct_law_right : Value} {f_law_box : Addr} {o_law_box n_law_box : Option Addr} {sl_law_box : Array (Option Value)} {c_law_box kV_law_box dc_law_box pm_law_box cd_law_box ct_law_box : Value} {f_law : Addr} {o_law n_law : Option Addr} {sl_law : Array (Option Value)} {c_law kV_law dc_law pm_law cd_law ct_law : Value}
    (a_empty_sheet : PySem.W.nsIn K mainGlobals "empty_sheet" = some (some (.ref f_empty_sheet))) (l_empty_sheet : K.lookup f_empty_sheet = some ⟨c_empty_sheet, o_empty_sheet, .func (PySem.W.fnOf "empty_sheet" "empty_sheet" (defArgs s_empty_sheet) (defBody s_empty_sheet) (defScope s_empty_sheet) .none kV_empty_sheet dc_empty_sheet pm_empty_sheet n_empty_sheet cd_empty_sheet ct_empty_sheet), sl_empty_sheet⟩) (e_empty_sheet : PySem.W.codeIn K cd_empty_sheet "empty_sheet" = true) (k_empty_sheet : PySem.W.keepIn K (.ref f_empty_sheet) = true)
    (a_people_of : PySem.W.nsIn K mainGlobals "people_of" = some (some (.ref f_people_of))) (l_people_of : K.lookup f_people_of = some ⟨c_people_of, o_people_of, .func (PySem.W.fnOf "people_of" "people_of" (defArgs s_people_of) (defBody s_people_of) (defScope s_people_of) .none kV_people_of dc_people_of pm_people_of n_people_of cd_people_of ct_people_of), sl_people_of⟩) (e_people_of : PySem.W.codeIn K cd_people_of "people_of" = true) (k_people_of : PySem.W.keepIn K (.ref f_people_of) = true)
    (a_lower_pairs : PySem.W.nsIn K mainGlobals "lower_pairs" = some (some (.ref f_lower_pairs))) (l_lower_pairs : K.lookup f_lower_pairs = some ⟨c_lower_pairs, o_lower_pairs, .func (PySem.W.fnOf "lower_pairs" "lower_pairs" (defArgs s_lower_pairs) (defBody s_lower_pairs) (defScope s_lower_pairs) .none kV_lower_pairs dc_lower_pairs pm_lower_pairs n_lower_pairs cd_lower_pairs ct_lower_pairs), sl_lower_pairs⟩) (e_lower_pairs : PySem.W.codeIn K cd_lower_pairs "lower_pairs" = true) (k_lower_pairs : PySem.W.keepIn K (.ref f_lower_pairs) = true)
    (a_has_word : PySem.W.nsIn K mainGlobals "has_word" = some (some (.ref f_has_word))) (l_has_word : K.lookup f_has_word = some ⟨c_has_word, o_has_word, .func (PySem.W.fnOf "has_word" "has_word" (defArgs s_has_word) (defBody s_has_word) (defScope s_has_word) .none kV_has_word dc_has_word pm_has_word n_has_word cd_has_word ct_has_word), sl_has_word⟩) (e_has_word : PySem.W.codeIn K cd_has_word "has_word" = true) (k_has_word : PySem.W.keepIn K (.ref f_has_word) = true)
    (a_look_word_of : PySem.W.nsIn K mainGlobals "look_word_of" = some (some (.ref f_look_word_of))) (l_look_word_of : K.lookup f_look_word_of = some ⟨c_look_word_of, o_look_word_of, .func (PySem.W.fnOf "look_word_of" "look_word_of" (defArgs s_look_word_of) (defBody s_look_word_of) (defScope s_look_word_of) .none kV_look_word_of dc_look_word_of pm_look_word_of n_look_word_of cd_look_word_of ct_look_word_of), sl_look_word_of⟩) (e_look_word_of : PySem.W.codeIn K cd_look_word_of "look_word_of" = true) (k_look_word_of : PySem.W.keepIn K (.ref f_look_word_of) = true)
    (a_loop_from : PySem.W.nsIn K mainGlobals "loop_from" = some (some (.ref f_loop_from))) (l_loop_from : K.lookup f_loop_from = some ⟨c_loop_from, o_loop_from, .func (PySem.W.fnOf "loop_from" "loop_from" (defArgs s_loop_from) (defBody s_loop_from) (defScope s_loop_from) .none kV_loop_from dc_loop_from pm_loop_from n_loop_from cd_loop_from ct_loop_from), sl_loop_from⟩) (e_loop_from : PySem.W.codeIn K cd_loop_from "loop_from" = true) (k_loop_from : PySem.W.keepIn K (.ref f_loop_from) = true)
    (a_loops : PySem.W.nsIn K mainGlobals "loops" = some (some (.ref f_loops))) (l_loops : K.lookup f_loops = some ⟨c_loops, o_loops, .func (PySem.W.fnOf "loops" "loops" (defArgs s_loops) (defBody s_loops) (defScope s_loops) .none kV_loops dc_loops pm_loops n_loops cd_loops ct_loops), sl_loops⟩) (e_loops : PySem.W.codeIn K cd_loops "loops" = true) (k_loops : PySem.W.keepIn K (.ref f_loops) = true)
    (a_pure_loops : PySem.W.nsIn K mainGlobals "pure_loops" = some (some (.ref f_pure_loops))) (l_pure_loops : K.lookup f_pure_loops = some ⟨c_pure_loops, o_pure_loops, .func (PySem.W.fnOf "pure_loops" "pure_loops" (defArgs s_pure_loops) (defBody s_pure_loops) (defScope s_pure_loops) .none kV_pure_loops dc_pure_loops pm_pure_loops n_pure_loops cd_pure_loops ct_pure_loops), sl_pure_loops⟩) (e_pure_loops : PySem.W.codeIn K cd_pure_loops "pure_loops" = true) (k_pure_loops : PySem.W.keepIn K (.ref f_pure_loops) = true)
    (a_fewest_calls : PySem.W.nsIn K mainGlobals "fewest_calls" = some (some (.ref f_fewest_calls))) (l_fewest_calls : K.lookup f_fewest_calls = some ⟨c_fewest_calls, o_fewest_calls, .func (PySem.W.fnOf "fewest_calls" "fewest_calls" (defArgs s_fewest_calls) (defBody s_fewest_calls) (defScope s_fewest_calls) .none kV_fewest_calls dc_fewest_calls pm_fewest_calls n_fewest_calls cd_fewest_calls ct_fewest_calls), sl_fewest_calls⟩) (e_fewest_calls : PySem.W.codeIn K cd_fewest_calls "fewest_calls" = true) (k_fewest_calls : PySem.W.keepIn K (.ref f_fewest_calls) = true)
    (a_with_joins : PySem.W.nsIn K mainGlobals "with_joins" = some (some (.ref f_with_joins))) (l_with_joins : K.lookup f_with_joins = some ⟨c_with_joins, o_with_joins, .func (PySem.W.fnOf "with_joins" "with_joins" (defArgs s_with_joins) (defBody s_with_joins) (defScope s_with_joins) .none kV_with_joins dc_with_joins pm_with_joins n_with_joins cd_with_joins ct_with_joins), sl_with_joins⟩) (e_with_joins : PySem.W.codeIn K cd_with_joins "with_joins" = true) (k_with_joins : PySem.W.keepIn K (.ref f_with_joins) = true)
    (a_before_pair : PySem.W.nsIn K mainGlobals "before_pair" = some (some (.ref f_before_pair))) (l_before_pair : K.lookup f_before_pair = some ⟨c_before_pair, o_before_pair, .func (PySem.W.fnOf "before_pair" "before_pair" (defArgs s_before_pair) (defBody s_before_pair) (defScope s_before_pair) .none kV_before_pair dc_before_pair pm_before_pair n_before_pair cd_before_pair ct_before_pair), sl_before_pair⟩) (e_before_pair : PySem.W.codeIn K cd_before_pair "before_pair" = true) (k_before_pair : PySem.W.keepIn K (.ref f_before_pair) = true)
    (a_before_call : PySem.W.nsIn K mainGlobals "before_call" = some (some (.ref f_before_call))) (l_before_call : K.lookup f_before_call = some ⟨c_before_call, o_before_call, .func (PySem.W.fnOf "before_call" "before_call" (defArgs s_before_call) (defBody s_before_call) (defScope s_before_call) .none kV_before_call dc_before_call pm_before_call n_before_call cd_before_call ct_before_call), sl_before_call⟩) (e_before_call : PySem.W.codeIn K cd_before_call "before_call" = true) (k_before_call : PySem.W.keepIn K (.ref f_before_call) = true)
    (a_word_for : PySem.W.nsIn K mainGlobals "word_for" = some (some (.ref f_word_for))) (l_word_for : K.lookup f_word_for = some ⟨c_word_for, o_word_for, .func (PySem.W.fnOf "word_for" "word_for" (defArgs s_word_for) (defBody s_word_for) (defScope s_word_for) .none kV_word_for dc_word_for pm_word_for n_word_for cd_word_for ct_word_for), sl_word_for⟩) (e_word_for : PySem.W.codeIn K cd_word_for "word_for" = true) (k_word_for : PySem.W.keepIn K (.ref f_word_for) = true)
    (a_law_with : PySem.W.nsIn K mainGlobals "_law_with" = some (some (.ref f_law_with))) (l_law_with : K.lookup f_law_with = some ⟨c_law_with, o_law_with, .func (PySem.W.fnOf "_law_with" "_law_with" (defArgs s_law_with) (defBody s_law_with) (defScope s_law_with) .none kV_law_with dc_law_with pm_law_with n_law_with cd_law_with ct_law_with), sl_law_with⟩) (e_law_with : PySem.W.codeIn K cd_law_with "_law_with" = true) (k_law_with : PySem.W.keepIn K (.ref f_law_with) = true)
    (a_law_led_web : PySem.W.nsIn K mainGlobals "_law_led_web" = some (some (.ref f_law_led_web))) (l_law_led_web : K.lookup f_law_led_web = some ⟨c_law_led_web, o_law_led_web, .func (PySem.W.fnOf "_law_led_web" "_law_led_web" (defArgs s_law_led_web) (defBody s_law_led_web) (defScope s_law_led_web) .none kV_law_led_web dc_law_led_web pm_law_led_web n_law_led_web cd_law_led_web ct_law_led_web), sl_law_led_web⟩) (e_law_led_web : PySem.W.codeIn K cd_law_led_web "_law_led_web" = true) (k_law_led_web : PySem.W.keepIn K (.ref f_law_led_web) = true)
    (a_law_same : PySem.W.nsIn K mainGlobals "_law_same" = some (some (.ref f_law_same))) (l_law_same : K.lookup f_law_same = some ⟨c_law_same, o_law_same, .func (PySem.W.fnOf "_law_same" "_law_same" (defArgs s_law_same) (defBody s_law_same) (defScope s_law_same) .none kV_law_same dc_law_same pm_law_same n_law_same cd_law_same ct_law_same), sl_law_same⟩) (e_law_same : PySem.W.codeIn K cd_law_same "_law_same" = true) (k_law_same : PySem.W.keepIn K (.ref f_law_same) = true)
    (a_look_person : PySem.W.nsIn K mainGlobals "look_person" = some (some (.ref f_look_person))) (l_look_person : K.lookup f_look_person = some ⟨c_look_person, o_look_person, .func (PySem.W.fnOf "look_person" "look_person" (defArgs s_look_person) (defBody s_look_person) (defScope s_look_person) .none kV_look_person dc_look_person pm_look_person n_look_person cd_look_person ct_look_person), sl_look_person⟩) (e_look_person : PySem.W.codeIn K cd_look_person "look_person" = true) (k_look_person : PySem.W.keepIn K (.ref f_look_person) = true)
    (a_look_call : PySem.W.nsIn K mainGlobals "look_call" = some (some (.ref f_look_call))) (l_look_call : K.lookup f_look_call = some ⟨c_look_call, o_look_call, .func (PySem.W.fnOf "look_call" "look_call" (defArgs s_look_call) (defBody s_look_call) (defScope s_look_call) .none kV_look_call dc_look_call pm_look_call n_look_call cd_look_call ct_look_call), sl_look_call⟩) (e_look_call : PySem.W.codeIn K cd_look_call "look_call" = true) (k_look_call : PySem.W.keepIn K (.ref f_look_call) = true)
    (a_look_word : PySem.W.nsIn K mainGlobals "look_word" = some (some (.ref f_look_word))) (l_look_word : K.lookup f_look_word = some ⟨c_look_word, o_look_word, .func (PySem.W.fnOf "look_word" "look_word" (defArgs s_look_word) (defBody s_look_word) (defScope s_look_word) .none kV_look_word dc_look_word pm_look_word n_look_word cd_look_word ct_look_word), sl_look_word⟩) (e_look_word : PySem.W.codeIn K cd_look_word "look_word" = true) (k_look_word : PySem.W.keepIn K (.ref f_look_word) = true)
    (a_added : PySem.W.nsIn K mainGlobals "added" = some (some (.ref f_added))) (l_added : K.lookup f_added = some ⟨c_added, o_added, .func (PySem.W.fnOf "added" "added" (defArgs s_added) (defBody s_added) (defScope s_added) .none kV_added dc_added pm_added n_added cd_added ct_added), sl_added⟩) (e_added : PySem.W.codeIn K cd_added "added" = true) (k_added : PySem.W.keepIn K (.ref f_added) = true)
    (a_sheet_of : PySem.W.nsIn K mainGlobals "sheet_of" = some (some (.ref f_sheet_of))) (l_sheet_of : K.lookup f_sheet_of = some ⟨c_sheet_of, o_sheet_of, .func (PySem.W.fnOf "sheet_of" "sheet_of" (defArgs s_sheet_of) (defBody s_sheet_of) (defScope s_sheet_of) .none kV_sheet_of dc_sheet_of pm_sheet_of n_sheet_of cd_sheet_of ct_sheet_of), sl_sheet_of⟩) (e_sheet_of : PySem.W.codeIn K cd_sheet_of "sheet_of" = true) (k_sheet_of : PySem.W.keepIn K (.ref f_sheet_of) = true)
    (a_ends_from : PySem.W.nsIn K mainGlobals "ends_from" = some (some (.ref f_ends_from))) (l_ends_from : K.lookup f_ends_from = some ⟨c_ends_from, o_ends_from, .func (PySem.W.fnOf "ends_from" "ends_from" (defArgs s_ends_from) (defBody s_ends_from) (defScope s_ends_from) .none kV_ends_from dc_ends_from pm_ends_from n_ends_from cd_ends_from ct_ends_from), sl_ends_from⟩) (e_ends_from : PySem.W.codeIn K cd_ends_from "ends_from" = true) (k_ends_from : PySem.W.keepIn K (.ref f_ends_from) = true)
    (a_result_of : PySem.W.nsIn K mainGlobals "result_of" = some (some (.ref f_result_of))) (l_result_of : K.lookup f_result_of = some ⟨c_result_of, o_result_of, .func (PySem.W.fnOf "result_of" "result_of" (defArgs s_result_of) (defBody s_result_of) (defScope s_result_of) .none kV_result_of dc_result_of pm_result_of n_result_of cd_result_of ct_result_of), sl_result_of⟩) (e_result_of : PySem.W.codeIn K cd_result_of "result_of" = true) (k_result_of : PySem.W.keepIn K (.ref f_result_of) = true)
    (a_pairings_met : PySem.W.nsIn K mainGlobals "pairings_met" = some (some (.ref f_pairings_met))) (l_pairings_met : K.lookup f_pairings_met = some ⟨c_pairings_met, o_pairings_met, .func (PySem.W.fnOf "pairings_met" "pairings_met" (defArgs s_pairings_met) (defBody s_pairings_met) (defScope s_pairings_met) .none kV_pairings_met dc_pairings_met pm_pairings_met n_pairings_met cd_pairings_met ct_pairings_met), sl_pairings_met⟩) (e_pairings_met : PySem.W.codeIn K cd_pairings_met "pairings_met" = true) (k_pairings_met : PySem.W.keepIn K (.ref f_pairings_met) = true)
    (a_settles : PySem.W.nsIn K mainGlobals "settles" = some (some (.ref f_settles))) (l_settles : K.lookup f_settles = some ⟨c_settles, o_settles, .func (PySem.W.fnOf "settles" "settles" (defArgs s_settles) (defBody s_settles) (defScope s_settles) .none kV_settles dc_settles pm_settles n_settles cd_settles ct_settles), sl_settles⟩) (e_settles : PySem.W.codeIn K cd_settles "settles" = true) (k_settles : PySem.W.keepIn K (.ref f_settles) = true)
    (a_law_take : PySem.W.nsIn K mainGlobals "_law_take" = some (some (.ref f_law_take))) (l_law_take : K.lookup f_law_take = some ⟨c_law_take, o_law_take, .func (PySem.W.fnOf "_law_take" "_law_take" (defArgs s_law_take) (defBody s_law_take) (defScope s_law_take) .none kV_law_take dc_law_take pm_law_take n_law_take cd_law_take ct_law_take), sl_law_take⟩) (e_law_take : PySem.W.codeIn K cd_law_take "_law_take" = true) (k_law_take : PySem.W.keepIn K (.ref f_law_take) = true)
    (a_first_time : PySem.W.nsIn K mainGlobals "first_time" = some (some (.ref f_first_time))) (l_first_time : K.lookup f_first_time = some ⟨c_first_time, o_first_time, .func (PySem.W.fnOf "first_time" "first_time" (defArgs s_first_time) (defBody s_first_time) (defScope s_first_time) .none kV_first_time dc_first_time pm_first_time n_first_time cd_first_time ct_first_time), sl_first_time⟩) (e_first_time : PySem.W.codeIn K cd_first_time "first_time" = true) (k_first_time : PySem.W.keepIn K (.ref f_first_time) = true)
    (a_look_size : PySem.W.nsIn K mainGlobals "look_size" = some (some (.ref f_look_size))) (l_look_size : K.lookup f_look_size = some ⟨c_look_size, o_look_size, .func (PySem.W.fnOf "look_size" "look_size" (defArgs s_look_size) (defBody s_look_size) (defScope s_look_size) .none kV_look_size dc_look_size pm_look_size n_look_size cd_look_size ct_look_size), sl_look_size⟩) (e_look_size : PySem.W.codeIn K cd_look_size "look_size" = true) (k_look_size : PySem.W.keepIn K (.ref f_look_size) = true)
    (a_mirrored : PySem.W.nsIn K mainGlobals "mirrored" = some (some (.ref f_mirrored))) (l_mirrored : K.lookup f_mirrored = some ⟨c_mirrored, o_mirrored, .func (PySem.W.fnOf "mirrored" "mirrored" (defArgs s_mirrored) (defBody s_mirrored) (defScope s_mirrored) .none kV_mirrored dc_mirrored pm_mirrored n_mirrored cd_mirrored ct_mirrored), sl_mirrored⟩) (e_mirrored : PySem.W.codeIn K cd_mirrored "mirrored" = true) (k_mirrored : PySem.W.keepIn K (.ref f_mirrored) = true)
    (a_upper_end_from : PySem.W.nsIn K mainGlobals "upper_end_from" = some (some (.ref f_upper_end_from))) (l_upper_end_from : K.lookup f_upper_end_from = some ⟨c_upper_end_from, o_upper_end_from, .func (PySem.W.fnOf "upper_end_from" "upper_end_from" (defArgs s_upper_end_from) (defBody s_upper_end_from) (defScope s_upper_end_from) .none kV_upper_end_from dc_upper_end_from pm_upper_end_from n_upper_end_from cd_upper_end_from ct_upper_end_from), sl_upper_end_from⟩) (e_upper_end_from : PySem.W.codeIn K cd_upper_end_from "upper_end_from" = true) (k_upper_end_from : PySem.W.keepIn K (.ref f_upper_end_from) = true)
    (a_followed : PySem.W.nsIn K mainGlobals "followed" = some (some (.ref f_followed))) (l_followed : K.lookup f_followed = some ⟨c_followed, o_followed, .func (PySem.W.fnOf "followed" "followed" (defArgs s_followed) (defBody s_followed) (defScope s_followed) .none kV_followed dc_followed pm_followed n_followed cd_followed ct_followed), sl_followed⟩) (e_followed : PySem.W.codeIn K cd_followed "followed" = true) (k_followed : PySem.W.keepIn K (.ref f_followed) = true)
    (a_sheet_settles : PySem.W.nsIn K mainGlobals "sheet_settles" = some (some (.ref f_sheet_settles))) (l_sheet_settles : K.lookup f_sheet_settles = some ⟨c_sheet_settles, o_sheet_settles, .func (PySem.W.fnOf "sheet_settles" "sheet_settles" (defArgs s_sheet_settles) (defBody s_sheet_settles) (defScope s_sheet_settles) .none kV_sheet_settles dc_sheet_settles pm_sheet_settles n_sheet_settles cd_sheet_settles ct_sheet_settles), sl_sheet_settles⟩) (e_sheet_settles : PySem.W.codeIn K cd_sheet_settles "sheet_settles" = true) (k_sheet_settles : PySem.W.keepIn K (.ref f_sheet_settles) = true)
    (a_times : PySem.W.nsIn K mainGlobals "times" = some (some (.ref f_times))) (l_times : K.lookup f_times = some ⟨c_times, o_times, .func (PySem.W.fnOf "times" "times" (defArgs s_times) (defBody s_times) (defScope s_times) .none kV_times dc_times pm_times n_times cd_times ct_times), sl_times⟩) (e_times : PySem.W.codeIn K cd_times "times" = true) (k_times : PySem.W.keepIn K (.ref f_times) = true)
    (a_repeated : PySem.W.nsIn K mainGlobals "repeated" = some (some (.ref f_repeated))) (l_repeated : K.lookup f_repeated = some ⟨c_repeated, o_repeated, .func (PySem.W.fnOf "repeated" "repeated" (defArgs s_repeated) (defBody s_repeated) (defScope s_repeated) .none kV_repeated dc_repeated pm_repeated n_repeated cd_repeated ct_repeated), sl_repeated⟩) (e_repeated : PySem.W.codeIn K cd_repeated "repeated" = true) (k_repeated : PySem.W.keepIn K (.ref f_repeated) = true)
    (a_law_right : PySem.W.nsIn K mainGlobals "_law_right" = some (some (.ref f_law_right))) (l_law_right : K.lookup f_law_right = some ⟨c_law_right, o_law_right, .func (PySem.W.fnOf "_law_right" "_law_right" (defArgs s_law_right) (defBody s_law_right) (defScope s_law_right) .none kV_law_right dc_law_right pm_law_right n_law_right cd_law_right ct_law_right), sl_law_right⟩) (e_law_right : PySem.W.codeIn K cd_law_right "_law_right" = true) (k_law_right : PySem.W.keepIn K (.ref f_law_right) = true)
    (a_law_box : PySem.W.nsIn K mainGlobals "_law_box" = some (some (.ref f_law_box))) (l_law_box : K.lookup f_law_box = some ⟨c_law_box, o_law_box, .func (PySem.W.fnOf "_law_box" "_law_box" (defArgs s_law_box) (defBody s_law_box) (defScope s_law_box) .none kV_law_box dc_law_box pm_law_box n_law_box cd_law_box ct_law_box), sl_law_box⟩) (e_law_box : PySem.W.codeIn K cd_law_box "_law_box" = true) (k_law_box : PySem.W.keepIn K (.ref f_law_box) = true)
    (a_law : PySem.W.nsIn K mainGlobals "law" = some (some (.ref f_law))) (l_law : K.lookup f_law = some ⟨c_law, o_law, .func (PySem.W.fnOf "law" "law" (defArgs s_law) (defBody s_law) (defScope s_law) .none kV_law dc_law pm_law n_law cd_law ct_law), sl_law⟩) (e_law : PySem.W.codeIn K cd_law "law" = true) (k_law : PySem.W.keepIn K (.ref f_law) = true)
    (z_abs : PySem.W.nsIn K mainGlobals "abs" = some none)
    (z_all : PySem.W.nsIn K mainGlobals "all" = some none)
    (z_bool : PySem.W.nsIn K mainGlobals "bool" = some none)
    (z_enumerate : PySem.W.nsIn K mainGlobals "enumerate" = some none)
    (z_int : PySem.W.nsIn K mainGlobals "int" = some none)
    (z_isinstance : PySem.W.nsIn K mainGlobals "isinstance" = some none)
    (z_len : PySem.W.nsIn K mainGlobals "len" = some none)
    (z_list : PySem.W.nsIn K mainGlobals "list" = some none)
    (z_min : PySem.W.nsIn K mainGlobals "min" = some none)
    (z_range : PySem.W.nsIn K mainGlobals "range" = some none)
    (z_sorted : PySem.W.nsIn K mainGlobals "sorted" = some none)
    (z_str : PySem.W.nsIn K mainGlobals "str" = some none)
    (z_tuple : PySem.W.nsIn K mainGlobals "tuple" = some none)
    (z_zip : PySem.W.nsIn K mainGlobals "zip" = some none)
    : ∃ fd : FuncData, (∀ (s : Shared) (v : Value), BindsTo s fd ⟨[v], []⟩ [("_law_script", v)]) ∧ ∀ base : Heap, K.In base → base.Ns mainGlobals mg → FnG l.prog w K mg base CX0 10 fa fd P_law (spD none F_law) := by
  have e := hfa.symm.trans (PySem.W.mg_of X G a_law)
  obtain rfl : fa = f_law := by injection e with e; injection e
  have B : Gb mg := ⟨PySem.W.mg_none_of X G z_abs, PySem.W.mg_none_of X G z_all, PySem.W.mg_none_of X G z_bool, PySem.W.mg_none_of X G z_enumerate, PySem.W.mg_none_of X G z_int, PySem.W.mg_none_of X G z_isinstance, PySem.W.mg_none_of X G z_len, PySem.W.mg_none_of X G z_list, PySem.W.mg_none_of X G z_min, PySem.W.mg_none_of X G z_range, PySem.W.mg_none_of X G z_sorted, PySem.W.mg_none_of X G z_str, PySem.W.mg_none_of X G z_tuple, PySem.W.mg_none_of X G z_zip⟩
  have u_empty_sheet := fun_mk (st := s_empty_sheet) l_empty_sheet e_empty_sheet k_empty_sheet
  have A_empty_sheet : At K mg "empty_sheet" s_empty_sheet P_empty_sheet _ _ := ⟨u_empty_sheet, PySem.W.mg_of X G a_empty_sheet, u_empty_sheet.binds (ps := P_empty_sheet) fun _ _ _ _ _ _ us hl => match us, hl with | [_], _ => rfl⟩
  have u_people_of := fun_mk (st := s_people_of) l_people_of e_people_of k_people_of
  have A_people_of : At K mg "people_of" s_people_of P_people_of _ _ := ⟨u_people_of, PySem.W.mg_of X G a_people_of, u_people_of.binds (ps := P_people_of) fun _ _ _ _ _ _ us hl => match us, hl with | [_], _ => rfl⟩
  have u_lower_pairs := fun_mk (st := s_lower_pairs) l_lower_pairs e_lower_pairs k_lower_pairs
  have A_lower_pairs : At K mg "lower_pairs" s_lower_pairs P_lower_pairs _ _ := ⟨u_lower_pairs, PySem.W.mg_of X G a_lower_pairs, u_lower_pairs.binds (ps := P_lower_pairs) fun _ _ _ _ _ _ us hl => match us, hl with | [_], _ => rfl⟩
  have u_has_word := fun_mk (st := s_has_word) l_has_word e_has_word k_has_word
  have A_has_word : At K mg "has_word" s_has_word P_has_word _ _ := ⟨u_has_word, PySem.W.mg_of X G a_has_word, u_has_word.binds (ps := P_has_word) fun _ _ _ _ _ _ us hl => match us, hl with | [_], _ => rfl⟩
  have u_look_word_of := fun_mk (st := s_look_word_of) l_look_word_of e_look_word_of k_look_word_of
  have A_look_word_of : At K mg "look_word_of" s_look_word_of P_look_word_of _ _ := ⟨u_look_word_of, PySem.W.mg_of X G a_look_word_of, u_look_word_of.binds (ps := P_look_word_of) fun _ _ _ _ _ _ us hl => match us, hl with | [_], _ => rfl⟩
  have u_loop_from := fun_mk (st := s_loop_from) l_loop_from e_loop_from k_loop_from
  have A_loop_from : At K mg "loop_from" s_loop_from P_loop_from _ _ := ⟨u_loop_from, PySem.W.mg_of X G a_loop_from, u_loop_from.binds (ps := P_loop_from) fun _ _ _ _ _ _ us hl => match us, hl with | [_, _], _ => rfl⟩
  have u_loops := fun_mk (st := s_loops) l_loops e_loops k_loops
  have A_loops : At K mg "loops" s_loops P_loops _ _ := ⟨u_loops, PySem.W.mg_of X G a_loops, u_loops.binds (ps := P_loops) fun _ _ _ _ _ _ us hl => match us, hl with | [_], _ => rfl⟩
  have u_pure_loops := fun_mk (st := s_pure_loops) l_pure_loops e_pure_loops k_pure_loops
  have A_pure_loops : At K mg "pure_loops" s_pure_loops P_pure_loops _ _ := ⟨u_pure_loops, PySem.W.mg_of X G a_pure_loops, u_pure_loops.binds (ps := P_pure_loops) fun _ _ _ _ _ _ us hl => match us, hl with | [_], _ => rfl⟩
  have u_fewest_calls := fun_mk (st := s_fewest_calls) l_fewest_calls e_fewest_calls k_fewest_calls
  have A_fewest_calls : At K mg "fewest_calls" s_fewest_calls P_fewest_calls _ _ := ⟨u_fewest_calls, PySem.W.mg_of X G a_fewest_calls, u_fewest_calls.binds (ps := P_fewest_calls) fun _ _ _ _ _ _ us hl => match us, hl with | [_], _ => rfl⟩
  have u_with_joins := fun_mk (st := s_with_joins) l_with_joins e_with_joins k_with_joins
  have A_with_joins : At K mg "with_joins" s_with_joins P_with_joins _ _ := ⟨u_with_joins, PySem.W.mg_of X G a_with_joins, u_with_joins.binds (ps := P_with_joins) fun _ _ _ _ _ _ us hl => match us, hl with | [_, _], _ => rfl⟩
  have u_before_pair := fun_mk (st := s_before_pair) l_before_pair e_before_pair k_before_pair
  have A_before_pair : At K mg "before_pair" s_before_pair P_before_pair _ _ := ⟨u_before_pair, PySem.W.mg_of X G a_before_pair, u_before_pair.binds (ps := P_before_pair) fun _ _ _ _ _ _ us hl => match us, hl with | [_, _], _ => rfl⟩
  have u_before_call := fun_mk (st := s_before_call) l_before_call e_before_call k_before_call
  have A_before_call : At K mg "before_call" s_before_call P_before_call _ _ := ⟨u_before_call, PySem.W.mg_of X G a_before_call, u_before_call.binds (ps := P_before_call) fun _ _ _ _ _ _ us hl => match us, hl with | [_, _], _ => rfl⟩
  have u_word_for := fun_mk (st := s_word_for) l_word_for e_word_for k_word_for
  have A_word_for : At K mg "word_for" s_word_for P_word_for _ _ := ⟨u_word_for, PySem.W.mg_of X G a_word_for, u_word_for.binds (ps := P_word_for) fun _ _ _ _ _ _ us hl => match us, hl with | [_], _ => rfl⟩
  have u_law_with := fun_mk (st := s_law_with) l_law_with e_law_with k_law_with
  have A_law_with : At K mg "_law_with" s_law_with P_law_with _ _ := ⟨u_law_with, PySem.W.mg_of X G a_law_with, u_law_with.binds (ps := P_law_with) fun _ _ _ _ _ _ us hl => match us, hl with | [_, _], _ => rfl⟩
  have u_law_led_web := fun_mk (st := s_law_led_web) l_law_led_web e_law_led_web k_law_led_web
  have A_law_led_web : At K mg "_law_led_web" s_law_led_web P_law_led_web _ _ := ⟨u_law_led_web, PySem.W.mg_of X G a_law_led_web, u_law_led_web.binds (ps := P_law_led_web) fun _ _ _ _ _ _ us hl => match us, hl with | [_, _], _ => rfl⟩
  have u_law_same := fun_mk (st := s_law_same) l_law_same e_law_same k_law_same
  have A_law_same : At K mg "_law_same" s_law_same P_law_same _ _ := ⟨u_law_same, PySem.W.mg_of X G a_law_same, u_law_same.binds (ps := P_law_same) fun _ _ _ _ _ _ us hl => match us, hl with | [_, _], _ => rfl⟩
  have u_look_person := fun_mk (st := s_look_person) l_look_person e_look_person k_look_person
  have A_look_person : At K mg "look_person" s_look_person P_look_person _ _ := ⟨u_look_person, PySem.W.mg_of X G a_look_person, u_look_person.binds (ps := P_look_person) fun _ _ _ _ _ _ us hl => match us, hl with | [_, _], _ => rfl⟩
  have u_look_call := fun_mk (st := s_look_call) l_look_call e_look_call k_look_call
  have A_look_call : At K mg "look_call" s_look_call P_look_call _ _ := ⟨u_look_call, PySem.W.mg_of X G a_look_call, u_look_call.binds (ps := P_look_call) fun _ _ _ _ _ _ us hl => match us, hl with | [_, _], _ => rfl⟩
  have u_look_word := fun_mk (st := s_look_word) l_look_word e_look_word k_look_word
  have A_look_word : At K mg "look_word" s_look_word P_look_word _ _ := ⟨u_look_word, PySem.W.mg_of X G a_look_word, u_look_word.binds (ps := P_look_word) fun _ _ _ _ _ _ us hl => match us, hl with | [_, _], _ => rfl⟩
  have u_added := fun_mk (st := s_added) l_added e_added k_added
  have A_added : At K mg "added" s_added P_added _ _ := ⟨u_added, PySem.W.mg_of X G a_added, u_added.binds (ps := P_added) fun _ _ _ _ _ _ us hl => match us, hl with | [_, _], _ => rfl⟩
  have u_sheet_of := fun_mk (st := s_sheet_of) l_sheet_of e_sheet_of k_sheet_of
  have A_sheet_of : At K mg "sheet_of" s_sheet_of P_sheet_of _ _ := ⟨u_sheet_of, PySem.W.mg_of X G a_sheet_of, u_sheet_of.binds (ps := P_sheet_of) fun _ _ _ _ _ _ us hl => match us, hl with | [_, _], _ => rfl⟩
  have u_ends_from := fun_mk (st := s_ends_from) l_ends_from e_ends_from k_ends_from
  have A_ends_from : At K mg "ends_from" s_ends_from P_ends_from _ _ := ⟨u_ends_from, PySem.W.mg_of X G a_ends_from, u_ends_from.binds (ps := P_ends_from) fun _ _ _ _ _ _ us hl => match us, hl with | [_, _, _], _ => rfl⟩
  have u_result_of := fun_mk (st := s_result_of) l_result_of e_result_of k_result_of
  have A_result_of : At K mg "result_of" s_result_of P_result_of _ _ := ⟨u_result_of, PySem.W.mg_of X G a_result_of, u_result_of.binds (ps := P_result_of) fun _ _ _ _ _ _ us hl => match us, hl with | [_, _], _ => rfl⟩
  have u_pairings_met := fun_mk (st := s_pairings_met) l_pairings_met e_pairings_met k_pairings_met
  have A_pairings_met : At K mg "pairings_met" s_pairings_met P_pairings_met _ _ := ⟨u_pairings_met, PySem.W.mg_of X G a_pairings_met, u_pairings_met.binds (ps := P_pairings_met) fun _ _ _ _ _ _ us hl => match us, hl with | [_, _], _ => rfl⟩
  have u_settles := fun_mk (st := s_settles) l_settles e_settles k_settles
  have A_settles : At K mg "settles" s_settles P_settles _ _ := ⟨u_settles, PySem.W.mg_of X G a_settles, u_settles.binds (ps := P_settles) fun _ _ _ _ _ _ us hl => match us, hl with | [_, _], _ => rfl⟩
  have u_law_take := fun_mk (st := s_law_take) l_law_take e_law_take k_law_take
  have A_law_take : At K mg "_law_take" s_law_take P_law_take _ _ := ⟨u_law_take, PySem.W.mg_of X G a_law_take, u_law_take.binds (ps := P_law_take) fun _ _ _ _ _ _ us hl => match us, hl with | [_, _], _ => rfl⟩
  have u_first_time := fun_mk (st := s_first_time) l_first_time e_first_time k_first_time
  have A_first_time : At K mg "first_time" s_first_time P_first_time _ _ := ⟨u_first_time, PySem.W.mg_of X G a_first_time, u_first_time.binds (ps := P_first_time) fun _ _ _ _ _ _ us hl => match us, hl with | [_, _, _, _], _ => rfl⟩
  have u_look_size := fun_mk (st := s_look_size) l_look_size e_look_size k_look_size
  have A_look_size : At K mg "look_size" s_look_size P_look_size _ _ := ⟨u_look_size, PySem.W.mg_of X G a_look_size, u_look_size.binds (ps := P_look_size) fun _ _ _ _ _ _ us hl => match us, hl with | [_, _], _ => rfl⟩
  have u_mirrored := fun_mk (st := s_mirrored) l_mirrored e_mirrored k_mirrored
  have A_mirrored : At K mg "mirrored" s_mirrored P_mirrored _ _ := ⟨u_mirrored, PySem.W.mg_of X G a_mirrored, u_mirrored.binds (ps := P_mirrored) fun _ _ _ _ _ _ us hl => match us, hl with | [_], _ => rfl⟩
  have u_upper_end_from := fun_mk (st := s_upper_end_from) l_upper_end_from e_upper_end_from k_upper_end_from
  have A_upper_end_from : At K mg "upper_end_from" s_upper_end_from P_upper_end_from _ _ := ⟨u_upper_end_from, PySem.W.mg_of X G a_upper_end_from, u_upper_end_from.binds (ps := P_upper_end_from) fun _ _ _ _ _ _ us hl => match us, hl with | [_, _, _, _], _ => rfl⟩
  have u_followed := fun_mk (st := s_followed) l_followed e_followed k_followed
  have A_followed : At K mg "followed" s_followed P_followed _ _ := ⟨u_followed, PySem.W.mg_of X G a_followed, u_followed.binds (ps := P_followed) fun _ _ _ _ _ _ us hl => match us, hl with | [_, _], _ => rfl⟩
  have u_sheet_settles := fun_mk (st := s_sheet_settles) l_sheet_settles e_sheet_settles k_sheet_settles
  have A_sheet_settles : At K mg "sheet_settles" s_sheet_settles P_sheet_settles _ _ := ⟨u_sheet_settles, PySem.W.mg_of X G a_sheet_settles, u_sheet_settles.binds (ps := P_sheet_settles) fun _ _ _ _ _ _ us hl => match us, hl with | [_, _], _ => rfl⟩
  have u_times := fun_mk (st := s_times) l_times e_times k_times
  have A_times : At K mg "times" s_times P_times _ _ := ⟨u_times, PySem.W.mg_of X G a_times, u_times.binds (ps := P_times) fun _ _ _ _ _ _ us hl => match us, hl with | [_, _], _ => rfl⟩
  have u_repeated := fun_mk (st := s_repeated) l_repeated e_repeated k_repeated
  have A_repeated : At K mg "repeated" s_repeated P_repeated _ _ := ⟨u_repeated, PySem.W.mg_of X G a_repeated, u_repeated.binds (ps := P_repeated) fun _ _ _ _ _ _ us hl => match us, hl with | [_, _, _], _ => rfl⟩
  have u_law_right := fun_mk (st := s_law_right) l_law_right e_law_right k_law_right
  have A_law_right : At K mg "_law_right" s_law_right P_law_right _ _ := ⟨u_law_right, PySem.W.mg_of X G a_law_right, u_law_right.binds (ps := P_law_right) fun _ _ _ _ _ _ us hl => match us, hl with | [_], _ => rfl⟩
  have u_law_box := fun_mk (st := s_law_box) l_law_box e_law_box k_law_box
  have A_law_box : At K mg "_law_box" s_law_box P_law_box _ _ := ⟨u_law_box, PySem.W.mg_of X G a_law_box, u_law_box.binds (ps := P_law_box) fun _ _ _ _ _ _ us hl => match us, hl with | [_, _], _ => rfl⟩
  have u_law := fun_mk (st := s_law) l_law e_law k_law
  have A_law : At K mg "law" s_law P_law _ _ := ⟨u_law, PySem.W.mg_of X G a_law, u_law.binds (ps := P_law) fun _ _ _ _ _ _ us hl => match us, hl with | [_], _ => rfl⟩
  refine ⟨PySem.W.fnOf "law" "law" (defArgs s_law) (defBody s_law) (defScope s_law) .none kV_law dc_law pm_law n_law cd_law ct_law, fun s v => .of_eq rfl, fun base _ _ => ?_⟩
  have ok_empty_sheet := ok_empty_sheet (P := l.prog) (w := w) (base := base) A_empty_sheet B
  have ok_people_of := ok_people_of (P := l.prog) (w := w) (base := base) A_people_of B
  have ok_lower_pairs := ok_lower_pairs (P := l.prog) (w := w) (base := base) A_lower_pairs A_people_of ok_people_of B
  have ok_has_word := ok_has_word (P := l.prog) (w := w) (base := base) A_has_word A_empty_sheet A_lower_pairs A_people_of ok_empty_sheet ok_lower_pairs ok_people_of B
  have ok_look_word_of := ok_look_word_of (P := l.prog) (w := w) (base := base) A_look_word_of A_has_word ok_has_word B
  have ok_loop_from := ok_loop_from (P := l.prog) (w := w) (base := base) A_loop_from A_people_of ok_people_of B
  have ok_loops := ok_loops (P := l.prog) (w := w) (base := base) A_loops A_loop_from A_people_of ok_loop_from ok_people_of B
  have ok_pure_loops := ok_pure_loops (P := l.prog) (w := w) (base := base) A_pure_loops A_people_of A_loops ok_people_of ok_loops B
  have ok_fewest_calls := ok_fewest_calls (P := l.prog) (w := w) (base := base) A_fewest_calls A_look_word_of A_people_of A_loops A_pure_loops ok_look_word_of ok_people_of ok_loops ok_pure_loops B
  have ok_with_joins := ok_with_joins (P := l.prog) (w := w) (base := base) A_with_joins B
  have ok_before_pair := ok_before_pair (P := l.prog) (w := w) (base := base) A_before_pair A_with_joins A_people_of A_pure_loops A_lower_pairs ok_with_joins ok_people_of ok_pure_loops ok_lower_pairs B
  have ok_before_call := ok_before_call (P := l.prog) (w := w) (base := base) A_before_call A_people_of A_with_joins A_before_pair ok_people_of ok_with_joins ok_before_pair B
  have ok_word_for := ok_word_for (P := l.prog) (w := w) (base := base) A_word_for A_fewest_calls A_before_call A_lower_pairs ok_fewest_calls ok_before_call ok_lower_pairs B
  have ok_law_with := ok_law_with (P := l.prog) (w := w) (base := base) A_law_with B
  have ok_law_led_web := ok_law_led_web (P := l.prog) (w := w) (base := base) A_law_led_web B
  have ok_law_same := ok_law_same (P := l.prog) (w := w) (base := base) A_law_same B 5
  have ok_look_person := ok_look_person (P := l.prog) (w := w) (base := base) A_look_person B
  have ok_look_call := ok_look_call (P := l.prog) (w := w) (base := base) A_look_call A_look_person ok_look_person B
  have ok_look_word := ok_look_word (P := l.prog) (w := w) (base := base) A_look_word A_look_call ok_look_call B
  have ok_added := ok_added (P := l.prog) (w := w) (base := base) A_added A_people_of A_with_joins ok_people_of ok_with_joins B
  have ok_sheet_of := ok_sheet_of (P := l.prog) (w := w) (base := base) A_sheet_of A_look_word A_empty_sheet A_added ok_look_word ok_empty_sheet ok_added B
  have ok_ends_from := ok_ends_from (P := l.prog) (w := w) (base := base) A_ends_from B
  have ok_result_of := ok_result_of (P := l.prog) (w := w) (base := base) A_result_of A_ends_from ok_ends_from B
  have ok_pairings_met := ok_pairings_met (P := l.prog) (w := w) (base := base) A_pairings_met A_sheet_of A_result_of ok_sheet_of ok_result_of B
  have ok_settles := ok_settles (P := l.prog) (w := w) (base := base) A_settles A_pairings_met ok_pairings_met B
  have ok_law_take := ok_law_take (P := l.prog) (w := w) (base := base) A_law_take B 3
  have ok_first_time := ok_first_time (P := l.prog) (w := w) (base := base) A_first_time A_look_person A_pairings_met ok_look_person ok_pairings_met B
  have ok_look_size := ok_look_size (P := l.prog) (w := w) (base := base) A_look_size B
  have ok_mirrored := ok_mirrored (P := l.prog) (w := w) (base := base) A_mirrored A_people_of ok_people_of B
  have ok_upper_end_from := ok_upper_end_from (P := l.prog) (w := w) (base := base) A_upper_end_from B
  have ok_followed := ok_followed (P := l.prog) (w := w) (base := base) A_followed A_people_of A_look_size A_mirrored A_upper_end_from ok_people_of ok_look_size ok_mirrored ok_upper_end_from B
  have ok_sheet_settles := ok_sheet_settles (P := l.prog) (w := w) (base := base) A_sheet_settles A_sheet_of A_empty_sheet A_followed ok_sheet_of ok_empty_sheet ok_followed B
  have ok_times := ok_times (P := l.prog) (w := w) (base := base) A_times A_empty_sheet A_people_of A_followed ok_empty_sheet ok_people_of ok_followed B
  have ok_repeated := ok_repeated (P := l.prog) (w := w) (base := base) A_repeated A_result_of A_times A_sheet_of ok_result_of ok_times ok_sheet_of B
  have ok_law_right := ok_law_right (P := l.prog) (w := w) (base := base) A_law_right A_word_for A_law_with A_law_led_web A_law_same A_settles A_law_take A_first_time A_sheet_settles A_repeated ok_word_for ok_law_with ok_law_led_web ok_law_same ok_settles ok_law_take ok_first_time ok_sheet_settles ok_repeated B
  have ok_law_box := ok_law_box (P := l.prog) (w := w) (base := base) A_law_box B
  exact ok_law A_law A_law_right A_law_box ok_law_right ok_law_box B
end
end Lw
open PySem PySem.W PyProof.Rows
set_option maxRecDepth 100000 in
set_option maxHeartbeats 0 in
theorem PySem.Challenge.cw_partnercall_k62_repetitions_known_by_han_holds : PySem.Challenge.rw_partnercall_k62_repetitions_known_by_han.Holds := by
  w_on; o_law; k_head; (case hw => w_witness2)
  k_fill
  refine DL.walkD (x := "_law_script") (l := PySem.Challenge.rw_partnercall_k62_repetitions_known_by_han) (F := K62.F_law) (k := 10) rfl rfl ⟨rfl, by decide, by decide⟩ (fun w h Y => PySem.W.kIn_of Y) ?zzN K62.law_ok ?zzF
  case zzN => intro w; kernel_rfl
  case zzF =>
    intro w mg fa h KX G hmg
    refine' Lw.all_mk KX G hmg ?a_empty_sheet ?l_empty_sheet ?e_empty_sheet ?k_empty_sheet ?a_people_of ?l_people_of ?e_people_of ?k_people_of ?a_lower_pairs ?l_lower_pairs ?e_lower_pairs ?k_lower_pairs ?a_has_word ?l_has_word ?e_has_word ?k_has_word ?a_look_word_of ?l_look_word_of ?e_look_word_of ?k_look_word_of ?a_loop_from ?l_loop_from ?e_loop_from ?k_loop_from ?a_loops ?l_loops ?e_loops ?k_loops ?a_pure_loops ?l_pure_loops ?e_pure_loops ?k_pure_loops ?a_fewest_calls ?l_fewest_calls ?e_fewest_calls ?k_fewest_calls ?a_with_joins ?l_with_joins ?e_with_joins ?k_with_joins ?a_before_pair ?l_before_pair ?e_before_pair ?k_before_pair ?a_before_call ?l_before_call ?e_before_call ?k_before_call ?a_word_for ?l_word_for ?e_word_for ?k_word_for ?a_law_with ?l_law_with ?e_law_with ?k_law_with ?a_law_led_web ?l_law_led_web ?e_law_led_web ?k_law_led_web ?a_law_same ?l_law_same ?e_law_same ?k_law_same ?a_look_person ?l_look_person ?e_look_person ?k_look_person ?a_look_call ?l_look_call ?e_look_call ?k_look_call ?a_look_word ?l_look_word ?e_look_word ?k_look_word ?a_added ?l_added ?e_added ?k_added ?a_sheet_of ?l_sheet_of ?e_sheet_of ?k_sheet_of ?a_ends_from ?l_ends_from ?e_ends_from ?k_ends_from ?a_result_of ?l_result_of ?e_result_of ?k_result_of ?a_pairings_met ?l_pairings_met ?e_pairings_met ?k_pairings_met ?a_settles ?l_settles ?e_settles ?k_settles ?a_law_take ?l_law_take ?e_law_take ?k_law_take ?a_first_time ?l_first_time ?e_first_time ?k_first_time ?a_look_size ?l_look_size ?e_look_size ?k_look_size ?a_mirrored ?l_mirrored ?e_mirrored ?k_mirrored ?a_upper_end_from ?l_upper_end_from ?e_upper_end_from ?k_upper_end_from ?a_followed ?l_followed ?e_followed ?k_followed ?a_sheet_settles ?l_sheet_settles ?e_sheet_settles ?k_sheet_settles ?a_times ?l_times ?e_times ?k_times ?a_repeated ?l_repeated ?e_repeated ?k_repeated ?a_law_right ?l_law_right ?e_law_right ?k_law_right ?a_law_box ?l_law_box ?e_law_box ?k_law_box ?a_law ?l_law ?e_law ?k_law ?z_abs ?z_all ?z_bool ?z_enumerate ?z_int ?z_isinstance ?z_len ?z_list ?z_min ?z_range ?z_sorted ?z_str ?z_tuple ?z_zip
    (case a_empty_sheet => k_is); (case l_empty_sheet => k_is); (case e_empty_sheet => k_is); (case k_empty_sheet => k_is); (case a_people_of => k_is); (case l_people_of => k_is)
    (case e_people_of => k_is); (case k_people_of => k_is); (case a_lower_pairs => k_is); (case l_lower_pairs => k_is); (case e_lower_pairs => k_is); (case k_lower_pairs => k_is)
    (case a_has_word => k_is); (case l_has_word => k_is); (case e_has_word => k_is); (case k_has_word => k_is); (case a_look_word_of => k_is); (case l_look_word_of => k_is)
    (case e_look_word_of => k_is); (case k_look_word_of => k_is); (case a_loop_from => k_is); (case l_loop_from => k_is); (case e_loop_from => k_is); (case k_loop_from => k_is)
    (case a_loops => k_is); (case l_loops => k_is); (case e_loops => k_is); (case k_loops => k_is); (case a_pure_loops => k_is); (case l_pure_loops => k_is)
    (case e_pure_loops => k_is); (case k_pure_loops => k_is); (case a_fewest_calls => k_is); (case l_fewest_calls => k_is); (case e_fewest_calls => k_is); (case k_fewest_calls => k_is)
    (case a_with_joins => k_is); (case l_with_joins => k_is); (case e_with_joins => k_is); (case k_with_joins => k_is); (case a_before_pair => k_is); (case l_before_pair => k_is)
    (case e_before_pair => k_is); (case k_before_pair => k_is); (case a_before_call => k_is); (case l_before_call => k_is); (case e_before_call => k_is); (case k_before_call => k_is)
    (case a_word_for => k_is); (case l_word_for => k_is); (case e_word_for => k_is); (case k_word_for => k_is); (case a_law_with => k_is); (case l_law_with => k_is)
    (case e_law_with => k_is); (case k_law_with => k_is); (case a_law_led_web => k_is); (case l_law_led_web => k_is); (case e_law_led_web => k_is); (case k_law_led_web => k_is)
    (case a_law_same => k_is); (case l_law_same => k_is); (case e_law_same => k_is); (case k_law_same => k_is); (case a_look_person => k_is); (case l_look_person => k_is)
    (case e_look_person => k_is); (case k_look_person => k_is); (case a_look_call => k_is); (case l_look_call => k_is); (case e_look_call => k_is); (case k_look_call => k_is)
    (case a_look_word => k_is); (case l_look_word => k_is); (case e_look_word => k_is); (case k_look_word => k_is); (case a_added => k_is); (case l_added => k_is)
    (case e_added => k_is); (case k_added => k_is); (case a_sheet_of => k_is); (case l_sheet_of => k_is); (case e_sheet_of => k_is); (case k_sheet_of => k_is)
    (case a_ends_from => k_is); (case l_ends_from => k_is); (case e_ends_from => k_is); (case k_ends_from => k_is); (case a_result_of => k_is); (case l_result_of => k_is)
    (case e_result_of => k_is); (case k_result_of => k_is); (case a_pairings_met => k_is); (case l_pairings_met => k_is); (case e_pairings_met => k_is); (case k_pairings_met => k_is)
    (case a_settles => k_is); (case l_settles => k_is); (case e_settles => k_is); (case k_settles => k_is); (case a_law_take => k_is); (case l_law_take => k_is)
    (case e_law_take => k_is); (case k_law_take => k_is); (case a_first_time => k_is); (case l_first_time => k_is); (case e_first_time => k_is); (case k_first_time => k_is)
    (case a_look_size => k_is); (case l_look_size => k_is); (case e_look_size => k_is); (case k_look_size => k_is); (case a_mirrored => k_is); (case l_mirrored => k_is)
    (case e_mirrored => k_is); (case k_mirrored => k_is); (case a_upper_end_from => k_is); (case l_upper_end_from => k_is); (case e_upper_end_from => k_is); (case k_upper_end_from => k_is)
    (case a_followed => k_is); (case l_followed => k_is); (case e_followed => k_is); (case k_followed => k_is); (case a_sheet_settles => k_is); (case l_sheet_settles => k_is)
    (case e_sheet_settles => k_is); (case k_sheet_settles => k_is); (case a_times => k_is); (case l_times => k_is); (case e_times => k_is); (case k_times => k_is)
    (case a_repeated => k_is); (case l_repeated => k_is); (case e_repeated => k_is); (case k_repeated => k_is); (case a_law_right => k_is); (case l_law_right => k_is)
    (case e_law_right => k_is); (case k_law_right => k_is); (case a_law_box => k_is); (case l_law_box => k_is); (case e_law_box => k_is); (case k_law_box => k_is)
    (case a_law => k_is); (case l_law => k_is); (case e_law => k_is); (case k_law => k_is); (case z_abs => k_is); (case z_all => k_is)
    (case z_bool => k_is); (case z_enumerate => k_is); (case z_int => k_is); (case z_isinstance => k_is); (case z_len => k_is); (case z_list => k_is)
    (case z_min => k_is); (case z_range => k_is); (case z_sorted => k_is); (case z_str => k_is); (case z_tuple => k_is); (case z_zip => k_is)
