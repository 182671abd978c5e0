import PyProof.Rows.All
import Wide.All
import OpenK.AllK
import Wide.FinOn
import HandS.ForMost
import HandS.IsInst
import HandS.Style
import HandS.Flow
import HandS.TupAny
import HandS.Conv
import HandS.Zip
import HandS.Exc
import HandS.Strs
import HandS.NoneIn
import HandS.Wide
import HandS.Deep
import KE.GoesEnum
import HandS.RaiseMore
import HandS.SortInts
import HandS.SortRule
import PyProof.ReprRoads
import HandS.TupSets
import PyProof.Rows.Range3
import KE.KStateDown
import PyProof.Rows.IntBool
import PyProof.CallStr
import HandS.Dict
import HandS.Small
import HandS.TupLen
import HandS.WordsDict
import KE.KDictWalk
import KE.KPairComp
import HandS.DictComp
import HandS.SetBool
import PyProof.SliceList
import KE.SortData
import KE.DataCmp
import KE.GoesZip
import KE.GoesMore
import KE.DataMinKey
import PyProof.Methods
import HandS.SetFor
import HandS.ExcInit
import HandS.WordsExc
import KE.KExcInit
import KE.KExcIs
import KE.KTryMore
import PyProof.ExcBaseAll.LookupError
import PyProof.ExcBaseAll.RuntimeError
import PyProof.ExcBaseAll.OverflowError
import PyProof.ExcBaseAll.ValueError
import HandS.ExcIs
import HandS.ExcField
import KE.KDictZip
import PyProof.ListNew
import HandS.ExcValue
import PyProof.TupleOfSeq
import KE.KDictDisplayH
import KE.KDictCopyH
import KE.KDictSum
import PySem.Challenge.RW_partnercall_k05_people_who_are_not_there
set_option Elab.async false
set_option linter.all false
set_option maxRecDepth 100000
set_option maxHeartbeats 2000000
namespace DL
open PySem PySem.Spec PyProof.Rows L2
abbrev D := PyData
abbrev SS := L2.St
/-- a key as data -/
def kD : Key → D
  | .inl i => .int i
  | .inr x => .str x
/-- the pairs of a dict, the keys as data; ahead of tuple keys stands a head, so that the data tell the kind -/
def dOf : HO → Option (List (D × V))
  | .dK kvs => some (kvs.map fun p => (kD p.1, p.2))
  | .dT kvs => some ((.none, .non) :: kvs.map fun p => (.tuple (p.1.map kD), p.2))
  | _ => none
/-- a dict that stands; one with int or text keys may be locked -/
def RdK (H : Hp) (a : Addr) (o : HO) : Prop := H a = some o ∨ ∃ od kvs, o = .dK kvs ∧ H a = some (.frz od o)
theorem RdK.rd {H : Hp} {a : Addr} {o : HO} (r : RdK H a o) : Rd H a o := r.elim .inl fun ⟨od, _, _, e⟩ => .inr ⟨od, e⟩
theorem RdK.up {H H' : Hp} {a : Addr} {u : HO} (h : ∀ o, H a = some o → H' a = some o) (r : RdK H a u) : RdK H' a u := by
  rcases r with r | ⟨o, k, e, r⟩
  · exact .inl (h _ r)
  · exact .inr ⟨o, k, e, h _ r⟩
/-- an error object: its class, its dict -/
def XO (cls : Value) (d : Option Addr) (a : Addr) : HO := .ext fun h => ∃ (oe : Obj) (vs : Array Value), h.get? a = some oe ∧ Zc cls d oe ∧ oe.data = .fields vs
/-- data of an error (the class ahead) or of a set (a mark ahead): no dict -/
def isX : List (D × D) → Bool
  | (.none, .int _) :: _ => true
  | (.none, .bool _) :: _ => true
  | (.none, .list _) :: _ => true
  | (.none, .tuple _) :: _ => true
  | _ => false
/-- data of an instance that is changed: its fields' places behind its class -/
def isOb : D → Bool
  | .dict ((.none, .list _) :: _) => true
  | _ => false
mutual
inductive Rep (S : Addr → Prop) (H : Hp) : V → D → Prop
  | non : Rep S H .non .none
  | bl (b : Bool) : Rep S H (.bl b) (.bool b)
  | int (i : Int) : Rep S H (.int i) (.int i)
  | str (x : Str) : Rep S H (.str x) (.str x)
  | lst {a : Addr} {xs : List V} {ds : List D} : S a → Rd H a (.lst xs) → RepA S H xs ds → Rep S H (.ref a) (.list ds)
  | tup {a : Addr} {xs : List V} {ds : List D} : S a → H a = some (.tup xs) → RepA S H xs ds → Rep S H (.ref a) (.tuple ds)
  | dct {a : Addr} {o : HO} {ps : List (D × V)} {es : List (D × D)} : S a → RdK H a o → dOf o = some ps → RepK S H ps es → Rep S H (.ref a) (.dict es)
  | exc {a c : Addr} {d : Option Addr} {ps : List (D × V)} {es : List (D × D)} : S a → H a = some (XO (.ref c) d a) → (d = none → ps = []) → (∀ dd, d = some dd → S dd ∧ ∃ f v, ps = [(.str f, v)] ∧ H dd = some (.xd [(f, v)])) → RepK S H ps es → Rep S H (.ref a) (.dict ((.none, .int c) :: es))
  | set {a : Addr} {w : World} {F : Int → Bool} {n : Nat} {ms : List Int} : S a → H a = some (SetO w a F n) → (∀ k, F k = ms.contains k) → n = ms.length → Rep S H (.ref a) (.dict ((.none, .bool true) :: ms.map fun k => (.int k, .none)))
  | ins {a C dx : Addr} {fs : List (Str × V)} {es : List (D × D)} : S a → H a = some (.ins C dx fs) → RepK S H (fs.map fun p => (.str p.1, p.2)) es → Rep S H (.ref a) (.dict ((.none, .tuple [.int (C : Int)]) :: es))
  | opq {a C dx : Addr} {fs : List (Str × V)} {es : List (D × D)} : S a → H a = some (.ins C dx fs) → Rep S H (.ref a) (.dict ((.none, .list [.int (C : Int)]) :: es))
inductive RepA (S : Addr → Prop) (H : Hp) : List V → List D → Prop
  | nil : RepA S H [] []
  | cons {v : V} {vs : List V} {d : D} {ds : List D} : Rep S H v d → RepA S H vs ds → RepA S H (v :: vs) (d :: ds)
inductive RepK (S : Addr → Prop) (H : Hp) : List (D × V) → List (D × D) → Prop
  | nil : RepK S H [] []
  | cons {k : D} {v : V} {d : D} {ps : List (D × V)} {es : List (D × D)} : Rep S H v d → RepK S H ps es → RepK S H ((k, v) :: ps) ((k, d) :: es)
end
theorem Rd.up {H H' : Hp} {a : Addr} {u : HO} (h : ∀ o, H a = some o → H' a = some o) (r : Rd H a u) : Rd H' a u := by
  rcases r with r | ⟨o, r⟩
  · exact .inl (h _ r)
  · exact .inr ⟨o, h _ r⟩
theorem Rd.dom {H : Hp} {a : Addr} {u : HO} (r : Rd H a u) : ∃ o, H a = some o := by
  rcases r with r | ⟨o, r⟩
  · exact ⟨_, r⟩
  · exact ⟨_, r⟩
section
variable {S S' : Addr → Prop} {H H' : Hp}
mutual
theorem Rep.up (h : ∀ a o, S a → H a = some o → S' a ∧ H' a = some o) : ∀ (d : D) (v : V), Rep S H v d → Rep S' H' v d
  | .none, _, r => by cases r; exact .non
  | .bool b, _, r => by cases r; exact .bl b
  | .int i, _, r => by cases r; exact .int i
  | .str x, _, r => by cases r; exact .str x
  | .list ds, _, r => by
    cases r with
    | lst hs hr ha =>
      obtain ⟨o, ho⟩ := Rd.dom hr
      exact .lst (h _ o hs ho).1 (Rd.up (fun o q => (h _ o hs q).2) hr) (RepA.up h ds _ ha)
  | .tuple ds, _, r => by
    cases r with
    | tup hs hr ha =>
      exact .tup (h _ _ hs hr).1 (h _ _ hs hr).2 (RepA.up h ds _ ha)
  | .dict es, _, r => by
    cases r with
    | dct hs hr hd ha =>
      obtain ⟨o, ho⟩ := Rd.dom hr.rd
      exact .dct (h _ o hs ho).1 (RdK.up (fun o q => (h _ o hs q).2) hr) hd (RepK.up h es _ ha)
    | exc hs hr h0 h1 ha =>
      exact .exc (h _ _ hs hr).1 (h _ _ hs hr).2 h0 (fun dd e => by
        obtain ⟨z1, f, v, z2, z3⟩ := h1 dd e
        exact ⟨(h _ _ z1 z3).1, f, v, z2, (h _ _ z1 z3).2⟩) (RepK.up h _ _ ha)
    | set hs hr h1 h2 => exact .set (h _ _ hs hr).1 (h _ _ hs hr).2 h1 h2
    | ins hs hr ha => exact .ins (h _ _ hs hr).1 (h _ _ hs hr).2 (RepK.up h _ _ ha)
    | opq hs hr => exact .opq (h _ _ hs hr).1 (h _ _ hs hr).2
theorem RepA.up (h : ∀ a o, S a → H a = some o → S' a ∧ H' a = some o) : ∀ (ds : List D) (vs : List V), RepA S H vs ds → RepA S' H' vs ds
  | [], _, r => by cases r; exact .nil
  | d :: ds, _, r => by
    cases r with
    | cons r1 r2 => exact .cons (Rep.up h d _ r1) (RepA.up h ds _ r2)
theorem RepK.up (h : ∀ a o, S a → H a = some o → S' a ∧ H' a = some o) : ∀ (es : List (D × D)) (ps : List (D × V)), RepK S H ps es → RepK S' H' ps es
  | [], _, r => by cases r; exact .nil
  | (k, d) :: es, _, r => by
    cases r with
    | cons r1 r2 => exact .cons (Rep.up h d _ r1) (RepK.up h es _ r2)
end
theorem Rep.mono {v : V} {d : D} (r : Rep S H v d) (h : ∀ a o, S a → H a = some o → S' a ∧ H' a = some o) : Rep S' H' v d := Rep.up h d v r
theorem RepA.mono {v : List V} {d : List D} (r : RepA S H v d) (h : ∀ a o, S a → H a = some o → S' a ∧ H' a = some o) : RepA S' H' v d := RepA.up h d v r
theorem RepA.length : ∀ {vs : List V} {ds : List D}, RepA S H vs ds → vs.length = ds.length
  | [], ds, r => by cases r; rfl
  | v :: vs, ds, r => by
    cases r with
    | cons r1 r2 => simp [RepA.length r2]
theorem RepA.get : ∀ {vs : List V} {ds : List D} {i : Nat} {v : V}, RepA S H vs ds → vs[i]? = some v → ∃ d, ds[i]? = some d ∧ Rep S H v d
  | [], _, _, _, r, e => by simp at e
  | v :: vs, _, i, x, r, e => by
    cases r with
    | cons r1 r2 =>
      cases i with
      | zero => simp at e; subst e; exact ⟨_, rfl, r1⟩
      | succ i =>
        obtain ⟨d, h1, h2⟩ := RepA.get (i := i) (v := x) r2 (by simpa using e)
        exact ⟨d, by simpa using h1, h2⟩
theorem RepA.get' : ∀ {vs : List V} {ds : List D} {i : Nat} {d : D}, RepA S H vs ds → ds[i]? = some d → ∃ v, vs[i]? = some v ∧ Rep S H v d
  | [], _, _, _, r, e => by cases r; simp at e
  | v :: vs, _, i, x, r, e => by
    cases r with
    | cons r1 r2 =>
      cases i with
      | zero => simp at e; subst e; exact ⟨_, rfl, r1⟩
      | succ i =>
        obtain ⟨d, h1, h2⟩ := RepA.get' (i := i) (d := x) r2 (by simpa using e)
        exact ⟨d, by simpa using h1, h2⟩
theorem RepA.append : ∀ {vs ws : List V} {ds es : List D}, RepA S H vs ds → RepA S H ws es → RepA S H (vs ++ ws) (ds ++ es)
  | [], _, _, _, r, q => by cases r; exact q
  | v :: vs, _, _, _, r, q => by
    cases r with
    | cons r1 r2 => exact .cons r1 (RepA.append r2 q)
theorem RepA.take : ∀ {vs : List V} {ds : List D} (n : Nat), RepA S H vs ds → RepA S H (vs.take n) (ds.take n)
  | [], _, n, r => by cases r; simp; exact .nil
  | v :: vs, _, n, r => by
    cases r with
    | cons r1 r2 =>
      cases n with
      | zero => exact .nil
      | succ n => exact .cons r1 (RepA.take n r2)
theorem RepA.drop : ∀ {vs : List V} {ds : List D} (n : Nat), RepA S H vs ds → RepA S H (vs.drop n) (ds.drop n)
  | [], _, n, r => by cases r; simp; exact .nil
  | v :: vs, _, n, r => by
    cases r with
    | cons r1 r2 =>
      cases n with
      | zero => exact .cons r1 r2
      | succ n => exact RepA.drop n r2
theorem RepA.set {v : V} {d : D} (q : Rep S H v d) : ∀ {vs : List V} {ds : List D} (n : Nat), RepA S H vs ds → RepA S H (vs.set n v) (ds.set n d)
  | [], _, n, r => by cases r; exact .nil
  | w :: vs, _, n, r => by
    cases r with
    | cons r1 r2 =>
      cases n with
      | zero => exact .cons q r2
      | succ n => exact .cons r1 (RepA.set q n r2)
theorem RepA.eraseIdx : ∀ {vs : List V} {ds : List D} (n : Nat), RepA S H vs ds → RepA S H (vs.eraseIdx n) (ds.eraseIdx n)
  | [], _, n, r => by cases r; exact .nil
  | w :: vs, _, n, r => by
    cases r with
    | cons r1 r2 =>
      cases n with
      | zero => exact r2
      | succ n => exact .cons r1 (RepA.eraseIdx n r2)
theorem RepA.ints : ∀ {vs : List V} {ns : List Int}, RepA S H vs (ns.map .int) → vs = ns.map V.int
  | _, [], r => by cases r; rfl
  | _, n :: ns, r => by
    cases r with
    | cons r1 r2 => cases r1; rw [RepA.ints r2]; rfl
theorem RepA.of_ints : ∀ (ns : List Int), RepA S H (ns.map V.int) (ns.map .int)
  | [] => .nil
  | n :: ns => .cons (.int n) (RepA.of_ints ns)
theorem RepA.replicate {v : V} {d : D} (q : Rep S H v d) : ∀ n : Nat, RepA S H (List.replicate n v) (List.replicate n d)
  | 0 => .nil
  | n + 1 => .cons q (RepA.replicate q n)
theorem RepA.rep {vs : List V} {ds : List D} (q : RepA S H vs ds) : ∀ n : Nat, RepA S H (List.replicate n vs).flatten (List.replicate n ds).flatten
  | 0 => .nil
  | n + 1 => by rw [List.replicate_succ, List.flatten_cons, List.replicate_succ, List.flatten_cons]; exact q.append (RepA.rep q n)
end
def atom : D → Bool
  | .none => true
  | .bool _ => true
  | .int _ => true
  | .str _ => true
  | _ => false
theorem Rep.atom {S S' : Addr → Prop} {H H' : Hp} {v : V} {d : D} (h : DL.atom d = true) (r : Rep S H v d) : Rep S' H' v d := by
  cases r with
  | non => exact .non
  | bl b => exact .bl b
  | int i => exact .int i
  | str x => exact .str x
  | lst _ _ _ => simp [DL.atom] at h
  | tup _ _ _ => simp [DL.atom] at h
  | dct _ _ _ _ => simp [DL.atom] at h
  | exc _ _ _ _ _ => simp [DL.atom] at h
  | set _ _ _ _ => simp [DL.atom] at h
  | ins _ _ _ => simp [DL.atom] at h
  | opq _ _ => simp [DL.atom] at h
theorem RepA.atoms {S S' : Addr → Prop} {H H' : Hp} : ∀ {vs : List V} {ds : List D}, ds.all DL.atom = true → RepA S H vs ds → RepA S' H' vs ds
  | _, [], h, r => by cases r; exact .nil
  | _, d :: ds, h, r => by
    cases r with
    | cons r1 r2 =>
      simp only [List.all_cons, Bool.and_eq_true] at h
      exact .cons (r1.atom h.1) (RepA.atoms h.2 r2)
/-- what an own object holds -/
inductive OwnC (S : Addr → Prop) (H : Hp) : HO → D → Prop
  | lst {xs : List V} {ds : List D} : RepA S H xs ds → OwnC S H (.lst xs) (.list ds)
  | dct {o : HO} {ps : List (D × V)} {es : List (D × D)} : dOf o = some ps → RepK S H ps es → OwnC S H o (.dict es)
  | opq {C dx : Addr} {fs : List (Str × V)} {es : List (D × D)} : OwnC S H (.ins C dx fs) (.dict ((.none, .list [.int (C : Int)]) :: es))
theorem OwnC.mono {S S' : Addr → Prop} {H H' : Hp} {o : HO} {d : D} (r : OwnC S H o d) (h : ∀ a o, S a → H a = some o → S' a ∧ H' a = some o) : OwnC S' H' o d := by
  cases r with
  | lst r => exact .lst (RepA.up h _ _ r)
  | dct e r => exact .dct e (RepK.up h _ _ r)
  | opq => exact .opq
theorem OwnC.rep {S : Addr → Prop} {H : Hp} {a : Addr} {o : HO} {d : D} (r : OwnC S H o d) (hs : S a) (e : H a = some o) : Rep S H (.ref a) d := by
  cases r with
  | lst r => exact .lst hs (.inl e) r
  | dct e1 r => exact .dct hs (.inl e) e1 r
  | opq => exact .opq hs e
theorem OwnC.ntup {S : Addr → Prop} {H : Hp} {o : HO} {d : D} (r : OwnC S H o d) : ∀ xs, o ≠ .tup xs := fun xs e => by
  subst e
  cases r with
  | dct e1 _ => cases e1
theorem OwnC.atom {S : Addr → Prop} {H : Hp} {o : HO} {d : D} (r : OwnC S H o d) : DL.atom d = false := by cases r <;> rfl
inductive Fl where
  | sh | ow | bx
  deriving DecidableEq
abbrev En := List (Option (Fl × D))
inductive RV where
  | sh (d : D) | fr (d : D) | al (i : Nat)
def Own (σ : SS) (ρ : En) (a : Addr) : Prop := ∃ (i : Nat) (fl : Fl) (d : D), ρ[i]? = some (some (fl, d)) ∧ fl ≠ Fl.sh ∧ σ[i]? = some (some (V.ref a))
/-- what is fixed while a def runs: the heap at the entry, the objects of the arguments, the boxes, the slots at the entry -/
structure Pk where
  H0 : Hp
  S : Addr → Prop
  B : Addr → Prop
  σ0 : SS
def Av (P : Pk) (T : Addr → Prop) (σ : SS) (ρ : En) (b : Addr) : Prop := (P.S b ∨ P.H0 b = none) ∧ ¬ Own σ ρ b ∧ ¬ T b
/-- what is known of a box: it may change; or it is an instance whose fields lie in slots -/
structure BxOk (P : Pk) (i : Nat) (d : D) : Prop where
  bx : isOb d = false → ∀ a : Addr, P.σ0[i]? = some (some (V.ref a)) → P.B a
  ins : isOb d = true → ∃ (a C dx : Addr) (fs : List (Str × V)) (es : List (D × D)), d = .dict ((.none, .list [.int (C : Int)]) :: es) ∧ P.σ0[i]? = some (some (V.ref a)) ∧ P.H0 a = some (.ins C dx fs) ∧ ¬ P.B a ∧
    (∀ (f : Str) (g : Nat), (PyData.str f, PyData.int (g : Int)) ∈ es → ∃ v, fs.lookup f = some v ∧ P.σ0[g]? = some (some v)) ∧ (∀ (f : Str) (v : V), fs.lookup f = some v → ∃ g : D, (PyData.str f, g) ∈ es) ∧ fs.length ≤ es.length
structure Sim (P : Pk) (T : Addr → Prop) (σ : SS) (ρ : En) (H : Hp) : Prop where
  len : σ.length = ρ.length
  sh : ∀ (i : Nat) (d : D), ρ[i]? = some (some (.sh, d)) → ∃ v, σ[i]? = some (some v) ∧ Rep (Av P T σ ρ) H v d
  ow : ∀ (i : Nat) (fl : Fl) (d : D), ρ[i]? = some (some (fl, d)) → fl ≠ .sh → ∃ a o, σ[i]? = some (some (V.ref a)) ∧ H a = some o ∧ OwnC (Av P T σ ρ) H o d
  dj : ∀ (i j : Nat) (fl fl' : Fl) (d d' : D) (a : Addr), ρ[i]? = some (some (fl, d)) → fl ≠ .sh → ρ[j]? = some (some (fl', d')) → fl' ≠ .sh → σ[i]? = some (some (V.ref a)) → σ[j]? = some (some (V.ref a)) → i = j
  new : ∀ (i : Nat) (d : D) (a : Addr), ρ[i]? = some (some (.ow, d)) → σ[i]? = some (some (V.ref a)) → P.H0 a = none
  bx : ∀ (i : Nat) (d : D), ρ[i]? = some (some (.bx, d)) → σ[i]? = P.σ0[i]? ∧ BxOk P i d
  tn : ∀ b, T b → (∃ o, H b = some o) ∧ ¬ Own σ ρ b
  keep : ∀ b o, P.H0 b = some o → ¬ P.B b → H b = some o
  dom : ∀ b o, P.H0 b = some o → ∃ o', H b = some o'
  sB : ∀ b, P.B b → ¬ P.S b ∧ ∃ o, P.H0 b = some o
  tp : ∀ b xs, H b = some (.tup xs) → (P.S b ∨ P.H0 b = none) ∧ ¬ T b
theorem Sim.owL {P : Pk} {T : Addr → Prop} {σ : SS} {ρ : En} {H : Hp} (S : Sim P T σ ρ H) (i : Nat) (fl : Fl) (ds : List D) (e : ρ[i]? = some (some (fl, .list ds))) (n : fl ≠ .sh) :
    ∃ a xs, σ[i]? = some (some (V.ref a)) ∧ H a = some (.lst xs) ∧ RepA (Av P T σ ρ) H xs ds := by
  obtain ⟨a, o, q1, q2, q3⟩ := S.ow i fl _ e n
  cases q3 with
  | lst r => exact ⟨a, _, q1, q2, r⟩
/-- a step: what was not owned stands, ownership does not grow but over new objects -/
structure Stp (σ : SS) (ρ : En) (H : Hp) (σ' : SS) (ρ' : En) (H' : Hp) : Prop where
  fr : ∀ b o, H b = some o → ¬ Own σ ρ b → H' b = some o
  os : ∀ b, Own σ' ρ' b → Own σ ρ b ∨ H b = none
  dm : ∀ b o, H b = some o → ∃ o', H' b = some o'
theorem Stp.refl {σ : SS} {ρ : En} {H : Hp} : Stp σ ρ H σ ρ H := ⟨fun _ _ h _ => h, fun _ h => .inl h, fun _ o h => ⟨o, h⟩⟩
theorem Stp.trans {σ σ1 σ2 : SS} {ρ ρ1 ρ2 : En} {H H1 H2 : Hp} (a : Stp σ ρ H σ1 ρ1 H1) (b : Stp σ1 ρ1 H1 σ2 ρ2 H2) : Stp σ ρ H σ2 ρ2 H2 where
  fr := fun c o h n => b.fr c o (a.fr c o h n) fun q => by
    rcases a.os c q with z | z
    · exact n z
    · rw [h] at z; cases z
  os := fun c q => by
    rcases b.os c q with z | z
    · exact a.os c z
    · right
      cases e : H c with
      | none => rfl
      | some o =>
        obtain ⟨o', e'⟩ := a.dm c o e
        rw [z] at e'; cases e'
  dm := fun c o h => by
    obtain ⟨o', e⟩ := a.dm c o h
    exact b.dm c o' e
/-- the slots that are set stay set (within an expression) -/
def Kp (ρ ρ' : En) : Prop := ∀ (i : Nat) x, ρ[i]? = some (some x) → ∃ y, ρ'[i]? = some (some y)
theorem Kp.refl {ρ : En} : Kp ρ ρ := fun _ x h => ⟨x, h⟩
theorem Kp.trans {ρ ρ1 ρ2 : En} (a : Kp ρ ρ1) (b : Kp ρ1 ρ2) : Kp ρ ρ2 := fun i x h => by
  obtain ⟨y, e⟩ := a i x h
  exact b i y e
def Val (P : Pk) (T : Addr → Prop) (σ : SS) (ρ : En) (H : Hp) (v : V) : RV → Prop
  | .sh d => Rep (Av P T σ ρ) H v d
  | .fr d => ∃ a o, v = .ref a ∧ T a ∧ H a = some o ∧ P.H0 a = none ∧ OwnC (Av P T σ ρ) H o d
  | .al i => σ[i]? = some (some v) ∧ ∃ x, ρ[i]? = some (some x)
/-- the temporaries behind a value -/
def Tx (T : Addr → Prop) (H : Hp) (v : V) (T' : Addr → Prop) : RV → Prop
  | .fr _ => ∃ a, v = .ref a ∧ H a = none ∧ T' = fun b => T b ∨ b = a
  | _ => T' = T
/-- growth of the temporaries -/
def Tg (T : Addr → Prop) (H : Hp) (T' : Addr → Prop) : Prop := (∀ b, T b → T' b) ∧ ∀ b, T' b → T b ∨ H b = none
theorem Tg.refl {T : Addr → Prop} {H : Hp} : Tg T H T := ⟨fun _ h => h, fun _ h => .inl h⟩
theorem Tx.tg {T T' : Addr → Prop} {H : Hp} {v : V} {r : RV} (h : Tx T H v T' r) : Tg T H T' := by
  cases r with
  | sh d => cases h; exact .refl
  | al i => cases h; exact .refl
  | fr d =>
    obtain ⟨a, _, hn, rfl⟩ := h
    exact ⟨fun b h => .inl h, fun b h => h.elim .inl fun e => by subst e; exact .inr hn⟩
theorem Tg.trans {T T1 T2 : Addr → Prop} {H H1 : Hp} (a : Tg T H T1) (b : Tg T1 H1 T2) (dm : ∀ b o, H b = some o → ∃ o', H1 b = some o') : Tg T H T2 := by
  refine ⟨fun c h => b.1 c (a.1 c h), fun c h => ?_⟩
  rcases b.2 c h with h | h
  · exact a.2 c h
  · right
    cases e : H c with
    | none => rfl
    | some o =>
      obtain ⟨o', e'⟩ := dm c o e
      rw [h] at e'; cases e'
section
variable {P : Pk} {T T' : Addr → Prop} {σ σ' : SS} {ρ ρ' : En} {H H' : Hp} {v : V} {r : RV}
theorem av_step (st : Stp σ ρ H σ' ρ' H') (tg : Tg T H T') : ∀ a o, Av P T σ ρ a → H a = some o → Av P T' σ' ρ' a ∧ H' a = some o := fun a o ⟨h1, h2, h3⟩ e => by
  refine ⟨⟨h1, fun q => ?_, fun q => ?_⟩, st.fr a o e h2⟩
  · rcases st.os a q with z | z
    · exact h2 z
    · rw [e] at z; cases z
  · rcases tg.2 a q with z | z
    · exact h3 z
    · rw [e] at z; cases z
theorem Val.step (h : Val P T σ ρ H v r) (S : Sim P T σ ρ H) (st : Stp σ ρ H σ ρ' H') (kp : Kp ρ ρ') (tg : Tg T H T') : Val P T' σ ρ' H' v r := by
  cases r with
  | sh d => exact Rep.mono h (av_step st tg)
  | fr d =>
    obtain ⟨a, o, e1, ta, ha, h0, hr⟩ := h
    exact ⟨a, o, e1, tg.1 a ta, st.fr a _ ha (S.tn a ta).2, h0, hr.mono (av_step st tg)⟩
  | al i =>
    obtain ⟨e, x, q⟩ := h
    exact ⟨e, kp i x q⟩
/-- fewer temporaries -/
theorem Sim.less (S : Sim P T σ ρ H) (h : ∀ b, T' b → T b) : Sim P T' σ ρ H :=
  have av : ∀ a o, Av P T σ ρ a → H a = some o → Av P T' σ ρ a ∧ H a = some o := fun a o ⟨h1, h2, h3⟩ e => ⟨⟨h1, h2, fun q => h3 (h a q)⟩, e⟩
  { S with
    sh := fun i d e => let ⟨v, e1, r⟩ := S.sh i d e; ⟨v, e1, r.mono av⟩
    ow := fun i fl d e n => let ⟨a, o, e2, e3, r⟩ := S.ow i fl d e n; ⟨a, o, e2, e3, r.mono av⟩
    tn := fun b q => S.tn b (h b q)
    tp := fun b xs e => ⟨(S.tp b xs e).1, fun q => (S.tp b xs e).2 (h b q)⟩ }
end
end DL
set_option Elab.async false
set_option linter.all false
set_option maxRecDepth 100000
set_option maxHeartbeats 2000000
namespace DL
open PySem PySem.Spec PyProof.Rows L2
def dat (ρ : En) : RV → Option D
  | .sh d => some d
  | .fr d => some d
  | .al i => match ρ[i]? with
    | some (some (_, d)) => some d
    | _ => none
def datA (ρ : En) : List RV → Option (List D)
  | [] => some []
  | r :: rs => match dat ρ r, datA ρ rs with
    | some d, some ds => some (d :: ds)
    | _, _ => none
def rel (ρ : En) : RV → Option En
  | .al i => match ρ[i]? with
    | some (some (.ow, d)) => some (ρ.set i (some (.sh, d)))
    | some (some (.sh, _)) => some ρ
    | _ => none
  | _ => some ρ
def relA (ρ : En) : List RV → Option En
  | [] => some ρ
  | r :: rs => match rel ρ r with
    | some ρ1 => relA ρ1 rs
    | none => none
/-- a value read from outside: its own object anywhere, its parts within S -/
def Top (S : Addr → Prop) (H : Hp) (v : V) : D → Prop
  | .list ds => ∃ a xs, v = .ref a ∧ Rd H a (.lst xs) ∧ RepA S H xs ds
  | .dict es => ∃ a, v = .ref a ∧ (isX es = false → ∃ o ps, RdK H a o ∧ dOf o = some ps ∧ RepK S H ps es) ∧ (isX es = true → isOb (.dict es) = false → Rep S H (.ref a) (.dict es))
  | d => Rep S H v d
theorem dOf_nx {S : Addr → Prop} {H : Hp} {o : HO} {ps : List (D × V)} {es : List (D × D)} (h : dOf o = some ps) (r : RepK S H ps es) : isX es = false := by
  cases o with
  | dK kvs =>
    cases h
    cases kvs with
    | nil => cases r; rfl
    | cons p kvs =>
      obtain ⟨k, v⟩ := p
      cases r
      cases k <;> rfl
  | dT kvs =>
    cases h
    cases r with
    | cons r1 r2 => cases r1; rfl
  | _ => cases h
theorem OwnC.top {S : Addr → Prop} {H : Hp} {a : Addr} {o : HO} {d : D} (r : OwnC S H o d) (e : H a = some o) : Top S H (.ref a) d := by
  cases r with
  | lst r => exact ⟨a, _, rfl, .inl e, r⟩
  | dct e1 r => exact ⟨a, rfl, fun _ => ⟨_, _, .inl e, e1, r⟩, fun z => by rw [dOf_nx e1 r] at z; cases z⟩
  | opq => exact ⟨a, rfl, nofun, nofun⟩
theorem Rep.top {S : Addr → Prop} {H : Hp} {v : V} {d : D} (r : Rep S H v d) : Top S H v d := by
  cases r with
  | non => exact Rep.non
  | bl b => exact Rep.bl b
  | int i => exact Rep.int i
  | str x => exact Rep.str x
  | lst h1 h2 h3 => exact ⟨_, _, rfl, h2, h3⟩
  | tup h1 h2 h3 => exact Rep.tup h1 h2 h3
  | dct h1 h2 h3 h4 => exact ⟨_, rfl, fun _ => ⟨_, _, h2, h3, h4⟩, fun _ _ => .dct h1 h2 h3 h4⟩
  | exc h1 h2 h3 h4 h5 => exact ⟨_, rfl, nofun, fun _ _ => .exc h1 h2 h3 h4 h5⟩
  | set h1 h2 h3 h4 => exact ⟨_, rfl, nofun, fun _ _ => .set h1 h2 h3 h4⟩
  | ins h1 h2 h3 => exact ⟨_, rfl, nofun, fun _ _ => .ins h1 h2 h3⟩
  | opq h1 h2 => exact ⟨_, rfl, nofun, fun _ z => nomatch z⟩
section
variable {P : Pk} {T T' : Addr → Prop} {σ σ' : SS} {ρ ρ' : En} {H H' : Hp} {v : V} {r : RV}
theorem get_set_sh {i j : Nat} {d : D} {x : Option (Fl × D)} (h : (ρ.set i (some (.sh, d)))[j]? = some x) : (j = i ∧ x = some (.sh, d)) ∨ (j ≠ i ∧ ρ[j]? = some x) := by
  by_cases hj : j = i
  · subst hj
    left
    rw [List.getElem?_set] at h
    simp only [if_true] at h
    split at h
    · cases h; exact ⟨rfl, rfl⟩
    · cases h
  · right
    rw [List.getElem?_set_ne (Ne.symm hj)] at h
    exact ⟨hj, h⟩
theorem own_set_sh {i : Nat} {d : D} {b : Addr} (h : Own σ (ρ.set i (some (.sh, d))) b) : ∃ j fl e, j ≠ i ∧ ρ[j]? = some (some (fl, e)) ∧ fl ≠ .sh ∧ σ[j]? = some (some (V.ref b)) := by
  obtain ⟨j, fl, e, h1, h2, h3⟩ := h
  rcases get_set_sh h1 with ⟨_, e1⟩ | ⟨hj, e1⟩
  · cases e1; exact absurd rfl h2
  · exact ⟨j, fl, e, hj, e1, h2, h3⟩
theorem dat_set_sh {i : Nat} {fl : Fl} {d : D} (h : ρ[i]? = some (some (fl, d))) (r : RV) : dat (ρ.set i (some (.sh, d))) r = dat ρ r := by
  cases r with
  | sh d => rfl
  | fr d => rfl
  | al j =>
    unfold dat
    by_cases hj : i = j
    · subst hj
      have hl : i < ρ.length := (List.getElem?_eq_some_iff.mp h).1
      simp only [List.getElem?_set_self hl, h]
    · simp only [List.getElem?_set_ne hj]
/-- an owned slot is shared from now on -/
theorem Sim.give {i : Nat} {d : D} (S : Sim P T σ ρ H) (h : ρ[i]? = some (some (.ow, d))) : Sim P T σ (ρ.set i (some (.sh, d))) H ∧ ∃ v, σ[i]? = some (some v) ∧ Rep (Av P T σ (ρ.set i (some (.sh, d)))) H v d := by
  have ow : ∀ b, Own σ (ρ.set i (some (.sh, d))) b → Own σ ρ b := fun b q => by
    obtain ⟨j, fl, e, _, h1, h2, h3⟩ := own_set_sh q
    exact ⟨j, fl, e, h1, h2, h3⟩
  have av : ∀ a o, Av P T σ ρ a → H a = some o → Av P T σ (ρ.set i (some (.sh, d))) a ∧ H a = some o := fun a o ⟨h1, h2, h3⟩ e => ⟨⟨h1, fun q => h2 (ow a q), h3⟩, e⟩
  obtain ⟨a, o, e2, e3, e4⟩ := S.ow i .ow d h (by decide)
  have rp : Rep (Av P T σ (ρ.set i (some (.sh, d)))) H (.ref a) d := by
    refine (e4.mono av).rep ⟨.inr (S.new i _ a h e2), fun q => ?_, fun q => (S.tn a q).2 ⟨i, _, _, h, by decide, e2⟩⟩ e3
    obtain ⟨j, fl, e, hj, h1, h2, h3⟩ := own_set_sh q
    exact hj (S.dj j i fl .ow e _ a h1 h2 h (by decide) h3 e2)
  refine ⟨?_, .ref a, e2, rp⟩
  refine ⟨by rw [List.length_set]; exact S.len, fun j e h1 => ?_, fun j fl e h1 h2 => ?_, fun j k fl fl' e e' a' h1 h2 h3 h4 h5 h6 => ?_, fun j e a' h1 h2 => ?_, fun j e h1 => ?_, fun b q => ⟨(S.tn b q).1, fun z => (S.tn b q).2 (ow b z)⟩, S.keep, S.dom, S.sB, S.tp⟩
  · rcases get_set_sh h1 with ⟨rfl, e1⟩ | ⟨hj, e1⟩
    · cases e1; exact ⟨_, e2, rp⟩
    · obtain ⟨v, q1, q2⟩ := S.sh j e e1
      exact ⟨v, q1, q2.mono av⟩
  · rcases get_set_sh h1 with ⟨rfl, e1⟩ | ⟨hj, e1⟩
    · cases e1; exact absurd rfl h2
    · obtain ⟨a', o', q2, q3, q4⟩ := S.ow j fl e e1 h2
      exact ⟨a', o', q2, q3, q4.mono av⟩
  · rcases get_set_sh h1 with ⟨rfl, e1⟩ | ⟨hj, e1⟩
    · cases e1; exact absurd rfl h2
    · rcases get_set_sh h3 with ⟨rfl, e3⟩ | ⟨hk, e3⟩
      · cases e3; exact absurd rfl h4
      · exact S.dj j k fl fl' e e' a' e1 h2 e3 h4 h5 h6
  · rcases get_set_sh h1 with ⟨rfl, e1⟩ | ⟨hj, e1⟩
    · cases e1
    · exact S.new j e a' e1 h2
  · rcases get_set_sh h1 with ⟨rfl, e1⟩ | ⟨hj, e1⟩
    · cases e1
    · exact S.bx j e e1
theorem rel_al {i : Nat} : rel ρ (.al i) = match ρ[i]? with
    | some (some (.ow, d)) => some (ρ.set i (some (.sh, d)))
    | some (some (.sh, _)) => some ρ
    | _ => none := rfl
theorem dat_al' {i : Nat} : dat ρ (.al i) = match ρ[i]? with
    | some (some (_, d)) => some d
    | _ => none := rfl
theorem rel_spec (h : rel ρ r = some ρ') : ρ' = ρ ∨ ∃ i d, r = .al i ∧ ρ[i]? = some (some (.ow, d)) ∧ ρ' = ρ.set i (some (.sh, d)) := by
  cases r with
  | sh d => exact .inl (Option.some.inj h).symm
  | fr d => exact .inl (Option.some.inj h).symm
  | al i =>
    rw [rel_al] at h
    cases e : ρ[i]? with
    | none => rw [e] at h; cases h
    | some x =>
      cases x with
      | none => rw [e] at h; cases h
      | some y =>
        obtain ⟨fl, d⟩ := y
        cases fl with
        | sh => rw [e] at h; exact .inl (Option.some.inj h).symm
        | ow => rw [e] at h; exact .inr ⟨i, d, rfl, e, (Option.some.inj h).symm⟩
        | bx => rw [e] at h; cases h
theorem rel_dat (h : rel ρ r = some ρ') (q : RV) : dat ρ' q = dat ρ q := by
  rcases rel_spec h with rfl | ⟨i, d, rfl, e, rfl⟩
  · rfl
  · exact dat_set_sh e q
theorem rel_stp (h : rel ρ r = some ρ') : Stp σ ρ H σ ρ' H ∧ Kp ρ ρ' := by
  rcases rel_spec h with rfl | ⟨i, d, rfl, e, rfl⟩
  · exact ⟨.refl, .refl⟩
  · refine ⟨⟨fun _ _ h _ => h, fun b q => ?_, fun _ o h => ⟨o, h⟩⟩, fun j x q => ?_⟩
    · obtain ⟨j, fl, e, _, h1, h2, h3⟩ := own_set_sh q
      exact .inl ⟨j, fl, e, h1, h2, h3⟩
    · by_cases hj : i = j
      · subst hj
        exact ⟨_, List.getElem?_set_self (List.getElem?_eq_some_iff.mp e).1⟩
      · exact ⟨x, by rw [List.getElem?_set_ne hj]; exact q⟩
theorem Sim.rel (S : Sim P T σ ρ H) (h : rel ρ r = some ρ') : Sim P T σ ρ' H := by
  rcases rel_spec h with rfl | ⟨i, d, rfl, e, rfl⟩
  · exact S
  · exact (S.give e).1
theorem dat_al {i : Nat} {d : D} (h : dat ρ (.al i) = some d) : ∃ fl, ρ[i]? = some (some (fl, d)) := by
  rw [dat_al'] at h
  cases e : ρ[i]? with
  | none => rw [e] at h; cases h
  | some x =>
    cases x with
    | none => rw [e] at h; cases h
    | some y =>
      obtain ⟨fl, d'⟩ := y
      rw [e] at h
      cases h
      exact ⟨fl, rfl⟩
/-- a value that is let go of, as shared data; T0: the temporaries without it -/
theorem Val.toSh {T0 : Addr → Prop} {d : D} (V : Val P T σ ρ H v r) (S : Sim P T σ ρ H) (h : rel ρ r = some ρ') (hd : dat ρ r = some d) (h0 : ∀ b, T0 b → T b) (hf : ∀ d a, r = .fr d → v = .ref a → ¬ T0 a) : Rep (Av P T0 σ ρ') H v d := by
  have st : ∀ a o, Av P T σ ρ' a → H a = some o → Av P T0 σ ρ' a ∧ H a = some o := fun a o ⟨h1, h2, h3⟩ e => ⟨⟨h1, h2, fun q => h3 (h0 a q)⟩, e⟩
  cases r with
  | sh e => cases h; cases hd; exact Rep.mono V st
  | fr e =>
    cases h; cases hd
    obtain ⟨a, o, e1, ta, ha, hn, hr⟩ := V
    subst e1
    exact (hr.mono st).rep ⟨.inr hn, (S.tn a ta).2, hf _ a rfl rfl⟩ ha
  | al i =>
    obtain ⟨e1, _⟩ := V
    obtain ⟨fl, e2⟩ := dat_al hd
    rcases rel_spec h with rfl | ⟨j, d', e3, e4, rfl⟩
    · cases fl with
      | sh =>
        obtain ⟨v', q1, q2⟩ := S.sh i d e2
        rw [e1] at q1; cases q1
        exact q2.mono st
      | ow =>
        unfold DL.rel at h
        simp only [e2] at h
        have q := congrArg (fun z => z.map (fun y => y[i]?)) h
        simp only [Option.map_some] at q
        rw [List.getElem?_set_self (List.getElem?_eq_some_iff.mp e2).1, e2] at q
        cases q
      | bx => unfold DL.rel at h; simp only [e2] at h; cases h
    · cases e3
      rw [e4] at e2; cases e2
      obtain ⟨_, v', q1, q2⟩ := S.give e4
      rw [e1] at q1; cases q1
      exact q2.mono st
/-- peeked at -/
theorem Val.top {d : D} (V : Val P T σ ρ H v r) (S : Sim P T σ ρ H) (hd : dat ρ r = some d) : Top (Av P T σ ρ) H v d := by
  cases r with
  | sh e => cases hd; exact Rep.top V
  | fr e =>
    cases hd
    obtain ⟨a, o, e1, ta, ha, hn, hr⟩ := V
    subst e1
    exact hr.top ha
  | al i =>
    obtain ⟨e1, _⟩ := V
    obtain ⟨fl, e2⟩ := dat_al hd
    by_cases hf : fl = .sh
    · subst hf
      obtain ⟨v', q1, q2⟩ := S.sh i d e2
      rw [e1] at q1; cases q1
      exact q2.top
    · obtain ⟨a, o, q2, q3, q4⟩ := S.ow i fl d e2 hf
      rw [e1] at q2; cases q2
      exact q4.top q3
/-- a new object: a temporary -/
theorem own_dom {b : Addr} (S : Sim P T σ ρ H) (h : Own σ ρ b) : ∃ o, H b = some o := by
  obtain ⟨i, fl, d, h1, h2, h3⟩ := h
  obtain ⟨a, o, q2, q3, q4⟩ := S.ow i fl d h1 h2
  rw [h3] at q2; cases q2
  exact ⟨_, q3⟩
theorem tup_own {b : Addr} {xs : List V} (S : Sim P T σ ρ H) (h : H b = some (.tup xs)) : ¬ Own σ ρ b := fun ⟨i, fl, d, h1, h2, h3⟩ => by
  obtain ⟨a, o, q2, q3, q4⟩ := S.ow i fl d h1 h2
  rw [h3] at q2; cases q2
  rw [h] at q3; cases q3
  exact q4.ntup xs rfl
theorem h0_none {p : Addr} (S : Sim P T σ ρ H) (hp : H p = none) : P.H0 p = none := by
  cases e : P.H0 p with
  | none => rfl
  | some o =>
    obtain ⟨o', e'⟩ := S.dom p o e
    rw [hp] at e'; cases e'
theorem Sim.alloc {p : Addr} {o : HO} (S : Sim P T σ ρ H) (hp : H p = none) (nt : ∀ xs, o ≠ .tup xs := by exact nofun) : Sim P (fun b => T b ∨ b = p) σ ρ (upd H p o) ∧ Stp σ ρ H σ ρ (upd H p o) := by
  have up : ∀ b u, H b = some u → upd H p o b = some u := fun b u e => by rw [upd_ne (ne_of_none e hp)]; exact e
  have av : ∀ a u, Av P T σ ρ a → H a = some u → Av P (fun b => T b ∨ b = p) σ ρ a ∧ upd H p o a = some u := fun a u ⟨h1, h2, h3⟩ e => ⟨⟨h1, h2, fun q => q.elim h3 fun z => ne_of_none e hp z⟩, up a u e⟩
  refine ⟨⟨S.len, fun i d e => ?_, fun i fl d e n => ?_, S.dj, S.new, S.bx, fun b q => ?_, fun b u e n => up b u (S.keep b u e n), fun b u e => ?_, S.sB, fun b xs e => ?_⟩, ⟨fun b u e _ => up b u e, fun b q => .inl q, fun b u e => ⟨u, up b u e⟩⟩⟩
  · obtain ⟨v, q1, q2⟩ := S.sh i d e
    exact ⟨v, q1, q2.mono av⟩
  · obtain ⟨a, o, q2, q3, q4⟩ := S.ow i fl d e n
    exact ⟨a, o, q2, up a _ q3, q4.mono av⟩
  · rcases q with q | rfl
    · obtain ⟨⟨u, e⟩, n⟩ := S.tn b q
      exact ⟨⟨u, up b u e⟩, n⟩
    · refine ⟨⟨o, upd_same⟩, fun z => ?_⟩
      obtain ⟨u, e⟩ := own_dom S z
      rw [hp] at e; cases e
  · obtain ⟨u', e'⟩ := S.dom b u e
    exact ⟨u', up b u' e'⟩
  · by_cases hb : b = p
    · subst hb
      rw [upd_same] at e
      exact absurd (Option.some.inj e) (nt xs)
    · rw [upd_ne hb] at e
      exact ⟨(S.tp b xs e).1, fun q => q.elim (S.tp b xs e).2 hb⟩
/-- a new object, no temporary -/
theorem Sim.allocT {p : Addr} {o : HO} (S : Sim P T σ ρ H) (hp : H p = none) : Sim P T σ ρ (upd H p o) ∧ Stp σ ρ H σ ρ (upd H p o) := by
  have up : ∀ b u, H b = some u → upd H p o b = some u := fun b u e => by rw [upd_ne (ne_of_none e hp)]; exact e
  have av : ∀ a u, Av P T σ ρ a → H a = some u → Av P T σ ρ a ∧ upd H p o a = some u := fun a u h e => ⟨h, up a u e⟩
  refine ⟨⟨S.len, fun i d e => ?_, fun i fl d e n => ?_, S.dj, S.new, S.bx, fun b q => ?_, fun b u e n => up b u (S.keep b u e n), fun b u e => ?_, S.sB, fun b xs e => ?_⟩, ⟨fun b u e _ => up b u e, fun b q => .inl q, fun b u e => ⟨u, up b u e⟩⟩⟩
  · obtain ⟨v, q1, q2⟩ := S.sh i d e
    exact ⟨v, q1, q2.mono av⟩
  · obtain ⟨a, o, q2, q3, q4⟩ := S.ow i fl d e n
    exact ⟨a, o, q2, up a _ q3, q4.mono av⟩
  · obtain ⟨⟨u, e⟩, n⟩ := S.tn b q
    exact ⟨⟨u, up b u e⟩, n⟩
  · obtain ⟨u', e'⟩ := S.dom b u e
    exact ⟨u', up b u' e'⟩
  · by_cases hb : b = p
    · subst hb
      refine ⟨.inr (h0_none S hp), fun q => ?_⟩
      obtain ⟨⟨u, e⟩, _⟩ := S.tn b q
      rw [hp] at e; cases e
    · rw [upd_ne hb] at e
      exact S.tp b xs e
end
section
variable (X : Cx)
def WE (e : Expr) (σ : SS) (H : Hp) (Q : VK) : Prop :=
  ∀ (pins : List (Addr × Obj)) (s : Shared), Inv X pins σ H s → wpAny (model X.prog X.w) X.A (eval e X.env) (EP X pins σ Q) X.xe s
def WT (e : Expr) (σ : SS) (H : Hp) (Q : Bool → Hp → Prop) : Prop :=
  ∀ (pins : List (Addr × Obj)) (s : Shared), Inv X pins σ H s → wpAny (model X.prog X.w) X.A (isTrue e X.env (eval e X.env)) (TP X pins σ Q) X.xe s
def WW (e : Expr) (σ : SS) (H : Hp) (Q : Bool → Hp → Prop) : Prop :=
  ∀ (whole : Sem Value) (pins : List (Addr × Obj)) (s : Shared), Inv X pins σ H s → wpAny (model X.prog X.w) X.A (isTrue e X.env whole) (TP X pins σ Q) X.xe s
def WA (es : List Expr) (σ : SS) (H : Hp) (Q : List V → Hp → Prop) : Prop :=
  ∀ (pos : Pos) (pins : List (Addr × Obj)) (s : Shared), Inv X pins σ H s → wpAny (model X.prog X.w) X.A (spliced (backTo pos (starEach es X.env))) (AP X pins σ Q) X.xe s
def WS (st : Stmt) (Ds : Ends) (σ : SS) (H : Hp) : Prop :=
  ∀ (pins : List (Addr × Obj)) (s : Shared), Inv X pins σ H s → wpAny (model X.prog X.w) X.A (exec st X.env) (SP X pins Ds) X.xe s
def WSs (st : List Stmt) (Ds : Ends) (σ : SS) (H : Hp) : Prop :=
  ∀ (pins : List (Addr × Obj)) (s : Shared), Inv X pins σ H s → wpAny (model X.prog X.w) X.A (execs st X.env) (SP X pins Ds) X.xe s
end
section
variable {X : Cx}
theorem peW {e : Expr} : PE X e (WE X e) := ⟨fun pins s _ _ _ I h => h pins s I⟩
theorem ptW {e : Expr} : PT X e (WT X e) := ⟨fun pins s _ _ _ I h => h pins s I⟩
theorem pwW {e : Expr} : PW X e (WW X e) := ⟨fun wh pins s _ _ _ I h => h wh pins s I⟩
theorem paW {es : List Expr} : PA X es (WA X es) := ⟨fun pos pins s _ _ _ I h => h pos pins s I⟩
theorem psW {st : Stmt} : PS X st (WS X st) := ⟨fun pins s _ _ _ I h => h pins s I⟩
theorem pssW {st : List Stmt} : PSs X st (WSs X st) := ⟨fun pins s _ _ _ I h => h pins s I⟩
theorem PE.we {e : Expr} {t : TE} {σ : SS} {H : Hp} {Q : VK} (h : PE X e t) (q : t σ H Q) : WE X e σ H Q := fun pins s I => h.run pins s σ H Q I q
theorem PT.wt {e : Expr} {t : TT} {σ : SS} {H : Hp} {Q : Bool → Hp → Prop} (h : PT X e t) (q : t σ H Q) : WT X e σ H Q := fun pins s I => h.run pins s σ H Q I q
theorem PW.ww {e : Expr} {t : TT} {σ : SS} {H : Hp} {Q : Bool → Hp → Prop} (h : PW X e t) (q : t σ H Q) : WW X e σ H Q := fun wh pins s I => h.run wh pins s σ H Q I q
theorem PA.wa {es : List Expr} {t : TA} {σ : SS} {H : Hp} {Q : List V → Hp → Prop} (h : PA X es t) (q : t σ H Q) : WA X es σ H Q := fun pos pins s I => h.run pos pins s σ H Q I q
theorem PS.ws {st : Stmt} {t : TS} {σ : SS} {H : Hp} {Ds : Ends} (h : PS X st t) (q : t Ds σ H) : WS X st Ds σ H := fun pins s I => h.run pins s σ H Ds I q
theorem PSs.wss {st : List Stmt} {t : TS} {σ : SS} {H : Hp} {Ds : Ends} (h : PSs X st t) (q : t Ds σ H) : WSs X st Ds σ H := fun pins s I => h.run pins s σ H Ds I q
theorem WW.wt {e : Expr} {σ : SS} {H : Hp} {Q : Bool → Hp → Prop} (h : WW X e σ H Q) : WT X e σ H Q := fun pins s I => h _ pins s I
end
/-- behind an expression -/
structure Aft (P : Pk) (T : Addr → Prop) (σ : SS) (ρ : En) (H : Hp) (r : RV) (ρ' : En) (v : V) (H' : Hp) (T' : Addr → Prop) : Prop where
  sim : Sim P T' σ ρ' H'
  stp : Stp σ ρ H σ ρ' H'
  kp : Kp ρ ρ'
  tx : Tx T H v T' r
  val : Val P T' σ ρ' H' v r
abbrev Fe := En → Option (RV × En)
abbrev Ft := En → Option (Bool × En)
abbrev Fa := En → Option (List RV × En)
def DE (X : Cx) (e : Expr) (f : Fe) : Prop :=
  ∀ P T σ ρ H r ρ', Sim P T σ ρ H → f ρ = some (r, ρ') → ∀ Q : VK, (∀ v H' T', Aft P T σ ρ H r ρ' v H' T' → Q v H') → WE X e σ H Q
/-- a test; whole: also for and, or, whatever stands around -/
def DT (X : Cx) (e : Expr) (f : Ft) : Prop :=
  ∀ P T σ ρ H b ρ', Sim P T σ ρ H → f ρ = some (b, ρ') → ∀ Q : Bool → Hp → Prop, (∀ H', Sim P T σ ρ' H' → Stp σ ρ H σ ρ' H' → Kp ρ ρ' → Q b H') → WT X e σ H Q
def DW (X : Cx) (e : Expr) (f : Ft) : Prop :=
  ∀ P T σ ρ H b ρ', Sim P T σ ρ H → f ρ = some (b, ρ') → ∀ Q : Bool → Hp → Prop, (∀ H', Sim P T σ ρ' H' → Stp σ ρ H σ ρ' H' → Kp ρ ρ' → Q b H') → WW X e σ H Q
theorem DW.dt {X : Cx} {e : Expr} {f : Ft} (h : DW X e f) : DT X e f := fun P T σ ρ H b ρ' S e Q q => (h P T σ ρ H b ρ' S e Q q).wt
def ValA (P : Pk) (T : Addr → Prop) (σ : SS) (ρ : En) (H : Hp) : List V → List RV → Prop
  | [], [] => True
  | v :: vs, r :: rs => Val P T σ ρ H v r ∧ ValA P T σ ρ H vs rs
  | _, _ => False
/-- the fresh ones among several values are new and apart -/
def TxA (H : Hp) : List V → List RV → Prop
  | v :: vs, r :: rs => (∀ d, r = RV.fr d → ∃ a, v = V.ref a ∧ H a = none ∧ ∀ (i : Nat) (d' : D), rs[i]? = some (RV.fr d') → vs[i]? ≠ some (V.ref a)) ∧ TxA H vs rs
  | _, _ => True
structure AftA (P : Pk) (T : Addr → Prop) (σ : SS) (ρ : En) (H : Hp) (rs : List RV) (ρ' : En) (vs : List V) (H' : Hp) (T' : Addr → Prop) : Prop where
  sim : Sim P T' σ ρ' H'
  stp : Stp σ ρ H σ ρ' H'
  kp : Kp ρ ρ'
  tg : Tg T H T'
  tx : TxA H vs rs
  val : ValA P T' σ ρ' H' vs rs
def DA (X : Cx) (es : List Expr) (f : Fa) : Prop :=
  ∀ P T σ ρ H rs ρ', Sim P T σ ρ H → f ρ = some (rs, ρ') → ∀ Q : List V → Hp → Prop, (∀ vs H' T', vs.length = es.length → AftA P T σ ρ H rs ρ' vs H' T' → Q vs H') → WA X es σ H Q
section
variable {P : Pk} {T T' : Addr → Prop} {σ : SS} {ρ ρ' : En} {H H' : Hp}
theorem ValA.step : ∀ {vs : List V} {rs : List RV}, ValA P T σ ρ H vs rs → Sim P T σ ρ H → Stp σ ρ H σ ρ' H' → Kp ρ ρ' → Tg T H T' → ValA P T' σ ρ' H' vs rs
  | [], [], _, _, _, _, _ => trivial
  | v :: vs, r :: rs, h, S, st, kp, tg => ⟨h.1.step S st kp tg, ValA.step h.2 S st kp tg⟩
  | [], _ :: _, h, _, _, _, _ => h
  | _ :: _, [], h, _, _, _, _ => h
theorem ValA.length : ∀ {vs : List V} {rs : List RV}, ValA P T σ ρ H vs rs → vs.length = rs.length
  | [], [], _ => rfl
  | v :: vs, r :: rs, h => by simp [ValA.length h.2]
  | [], _ :: _, h => h.elim
  | _ :: _, [], h => h.elim
theorem ValA.get : ∀ {vs : List V} {rs : List RV} {i : Nat} {r : RV}, ValA P T σ ρ H vs rs → rs[i]? = some r → ∃ v, vs[i]? = some v ∧ Val P T σ ρ H v r
  | [], [], i, r, _, e => by simp at e
  | v :: vs, q :: rs, i, r, h, e => by
    cases i with
    | zero => simp at e; subst e; exact ⟨v, rfl, h.1⟩
    | succ i =>
      obtain ⟨w, h1, h2⟩ := ValA.get (i := i) (r := r) h.2 (by simpa using e)
      exact ⟨w, by simpa using h1, h2⟩
  | [], _ :: _, _, _, h, _ => h.elim
  | _ :: _, [], _, _, h, _ => h.elim
theorem TxA.get : ∀ {vs : List V} {rs : List RV} {i : Nat} {d : D} {a : Addr}, TxA H vs rs → rs[i]? = some (RV.fr d) → vs[i]? = some (V.ref a) → H a = none
  | [], rs, i, d, a, _, _, e => by simp at e
  | v :: vs, [], i, d, a, _, e, _ => by simp at e
  | v :: vs, r :: rs, i, d, a, h, e1, e2 => by
    obtain ⟨h1, h2⟩ := h
    cases i with
    | zero =>
      simp at e1 e2
      obtain ⟨b, eb, hb, _⟩ := h1 d e1
      rw [eb] at e2; cases e2; exact hb
    | succ i => exact TxA.get (i := i) (d := d) h2 (by simpa using e1) (by simpa using e2)
end
end DL
set_option Elab.async false
set_option linter.all false
set_option maxRecDepth 100000
set_option maxHeartbeats 2000000
namespace DL
open PySem PySem.Spec PyProof.Rows L2
section
variable {P : Pk} {T T' : Addr → Prop} {σ : SS} {ρ ρ' : En} {H H' : Hp}
theorem datA_rel {r : RV} (h : rel ρ r = some ρ') : ∀ rs : List RV, datA ρ' rs = datA ρ rs
  | [] => rfl
  | q :: rs => by unfold datA; rw [rel_dat h q, datA_rel h rs]
theorem relA_spec : ∀ {vs : List V} {rs : List RV} {ds : List D} {ρ : En}, Sim P T' σ ρ H → ValA P T' σ ρ H vs rs → (∀ b, T b → T' b) → (∀ (i : Nat) (d : D) (a : Addr), rs[i]? = some (RV.fr d) → vs[i]? = some (V.ref a) → ¬ T a) →
    datA ρ rs = some ds → relA ρ rs = some ρ' → Sim P T' σ ρ' H ∧ Stp σ ρ H σ ρ' H ∧ Kp ρ ρ' ∧ RepA (Av P T σ ρ') H vs ds
  | [], [], ds, ρ, S, _, _, _, hd, hr => by cases hd; cases hr; exact ⟨S, .refl, .refl, .nil⟩
  | [], _ :: _, _, _, _, h, _, _, _, _ => h.elim
  | _ :: _, [], _, _, _, h, _, _, _, _ => h.elim
  | v :: vs, r :: rs, ds, ρ, S, h, h0, hf, hd, hr => by
    unfold datA at hd
    cases e1 : dat ρ r with
    | none => rw [e1] at hd; cases hd
    | some d =>
      cases e2 : datA ρ rs with
      | none => rw [e1, e2] at hd; cases hd
      | some es =>
        rw [e1, e2] at hd
        cases hd
        unfold relA at hr
        cases e3 : rel ρ r with
        | none => rw [e3] at hr; cases hr
        | some ρ1 =>
          rw [e3] at hr
          have hr : relA ρ1 rs = some ρ' := hr
          obtain ⟨st1, kp1⟩ := rel_stp (σ := σ) (H := H) e3
          have S1 := S.rel e3
          have r1 : Rep (Av P T σ ρ1) H v d := h.1.toSh S e3 e1 h0 fun d a e4 e5 => hf 0 d a (by simp [e4]) (by simp [e5])
          have h2 : ValA P T' σ ρ1 H vs rs := h.2.step S st1 kp1 .refl
          obtain ⟨S2, st2, kp2, r2⟩ := relA_spec S1 h2 h0 (fun i d a q1 q2 => hf (i + 1) d a (by simpa using q1) (by simpa using q2)) (by rw [datA_rel e3]; exact e2) hr
          exact ⟨S2, st1.trans st2, kp1.trans kp2, .cons (r1.mono (av_step st2 .refl)) r2⟩
/-- peeked at, several -/
inductive TopA (S : Addr → Prop) (H : Hp) : List V → List D → Prop
  | nil : TopA S H [] []
  | cons {v : V} {vs : List V} {d : D} {ds : List D} : Top S H v d → TopA S H vs ds → TopA S H (v :: vs) (d :: ds)
theorem ValA.top : ∀ {vs : List V} {rs : List RV} {ds : List D}, ValA P T σ ρ H vs rs → Sim P T σ ρ H → datA ρ rs = some ds → TopA (Av P T σ ρ) H vs ds
  | [], [], _, _, _, h => by cases h; exact .nil
  | [], _ :: _, _, h, _, _ => h.elim
  | _ :: _, [], _, h, _, _ => h.elim
  | v :: vs, r :: rs, ds, h, S, hd => by
    unfold datA at hd
    cases e1 : dat ρ r with
    | none => rw [e1] at hd; cases hd
    | some d =>
      cases e2 : datA ρ rs with
      | none => rw [e1, e2] at hd; cases hd
      | some es =>
        rw [e1, e2] at hd
        cases hd
        exact .cons (h.1.top S e1) (ValA.top h.2 S e2)
end
def fvar (i : Nat) : Fe := fun ρ => match ρ[i]? with
  | some (some (.sh, d)) => some (.sh d, ρ)
  | some (some (_, _)) => some (.al i, ρ)
  | _ => none
def fc (d : D) : Fe := fun ρ => some (.sh d, ρ)
section
variable {X : Cx}
theorem aft_sh {P : Pk} {T T' : Addr → Prop} {σ : SS} {ρ ρ' : En} {H H' : Hp} {v : V} {d : D} (S : Sim P T' σ ρ' H') (st : Stp σ ρ H σ ρ' H') (kp : Kp ρ ρ') (tg : Tg T H T') (r : Rep (Av P T' σ ρ') H' v d) : Aft P T σ ρ H (.sh d) ρ' v H' T :=
  ⟨S.less tg.1, st, kp, rfl, r.mono fun a o ⟨h1, h2, h3⟩ e => ⟨⟨h1, h2, fun q => h3 (tg.1 a q)⟩, e⟩⟩
theorem de_var' {e : Expr} {i : Nat} (h : PE X e (tVar i)) : DE X e (fvar i) := by
  intro P T σ ρ H r ρ' S hf Q q
  refine PE.we h ?_
  unfold fvar at hf
  cases e1 : ρ[i]? with
  | none => rw [e1] at hf; cases hf
  | some x =>
    cases x with
    | none => rw [e1] at hf; cases hf
    | some y =>
      obtain ⟨fl, d⟩ := y
      by_cases hfl : fl = .sh
      · subst hfl
        rw [e1] at hf
        cases hf
        obtain ⟨v, e2, r2⟩ := S.sh i d e1
        exact ⟨v, e2, q v H T (aft_sh S .refl .refl .refl r2)⟩
      · obtain ⟨a, o, q2, q3, q4⟩ := S.ow i fl d e1 hfl
        have hf' : some (RV.al i, ρ) = some (r, ρ') := by
          rw [e1] at hf
          cases fl with
          | sh => exact absurd rfl hfl
          | ow => exact hf
          | bx => exact hf
        cases hf'
        exact ⟨.ref a, q2, q _ H T ⟨S, .refl, .refl, rfl, q2, _, e1⟩⟩
theorem de_var (i : Nat) {x : Str} {pos : Pos} (hN : X.N[i]? = some x := by rfl) (hv : Vis X.env.scope x := by first | exact Or.inl rfl | exact Or.inr (Or.inl rfl) | exact Or.inr (Or.inr rfl)) (hd : (x == ("__debug__" : Str)) = false := by decide)
    (hcd : (x == ("__classdict__" : Str)) = false := by decide) : DE X (.Name x pos) (fvar i) := de_var' (pe_var hN hv hd hcd)
theorem de_c {e : Expr} {v : V} {d : D} (h : PE X e (tC v)) (hr : ∀ S H, Rep S H v d) : DE X e (fc d) := by
  intro P T σ ρ H r ρ' S hf Q q
  cases hf
  exact PE.we h (q v H T (aft_sh S .refl .refl .refl (hr _ _)))
theorem de_int {i j pos} : DE X (.Constant (.int i) j pos) (fc (.int i)) := de_c pe_int fun _ _ => .int i
theorem de_bl {b j pos} : DE X (.Constant (.bool b) j pos) (fc (.bool b)) := de_c pe_bl fun _ _ => .bl b
theorem de_non {j pos} : DE X (.Constant .none j pos) (fc .none) := de_c pe_non fun _ _ => .non
theorem de_str {x j pos} : DE X (.Constant (.str x) j pos) (fc (.str x)) := de_c pe_str fun _ _ => .str x
end
inductive OutV where
  /-- a part of the operands, or without objects -/
  | it (d : D)
  /-- a new list, a new tuple -/
  | nl (ds : List D) | nt (ds : List D)
def rvOf : OutV → RV
  | .it d => .sh d
  | .nl ds => .fr (.list ds)
  | .nt ds => .sh (.tuple ds)
def Does (S : Addr → Prop) (H : Hp) (o : OutV) (w : VK → Prop) : Prop := match o with
  | .it d => ∃ v, Rep S H v d ∧ ∀ Q : VK, Q v H → w Q
  | .nl ds => ∃ xs, RepA S H xs ds ∧ ∀ Q : VK, (∀ p, H p = none → Q (.ref p) (upd H p (.lst xs))) → w Q
  | .nt ds => ∃ xs, RepA S H xs ds ∧ ∀ Q : VK, (∀ p, H p = none → Q (.ref p) (upd H p (.tup xs))) → w Q
theorem Does.int {S : Addr → Prop} {H : Hp} {w : VK → Prop} {i : Int} (h : ∀ Q : VK, Q (.int i) H → w Q) : Does S H (.it (.int i)) w := ⟨_, .int i, h⟩
theorem Does.bl {S : Addr → Prop} {H : Hp} {w : VK → Prop} {i : Bool} (h : ∀ Q : VK, Q (.bl i) H → w Q) : Does S H (.it (.bool i)) w := ⟨_, .bl i, h⟩
section
variable {P : Pk} {T T' : Addr → Prop} {σ : SS} {ρ ρ' : En} {H H' : Hp}
theorem does_fin {o : OutV} {w : VK → Prop} {Q : VK} (S : Sim P T' σ ρ' H') (st : Stp σ ρ H σ ρ' H') (kp : Kp ρ ρ') (tg : Tg T H T') (h : Does (Av P T' σ ρ') H' o w) (q : ∀ v H2 T2, Aft P T σ ρ H (rvOf o) ρ' v H2 T2 → Q v H2) : w Q := by
  cases o with
  | it d =>
    obtain ⟨v, r, hw⟩ := h
    exact hw Q (q v H' T (aft_sh S st kp tg r))
  | nl ds =>
    obtain ⟨xs, r, hw⟩ := h
    refine hw Q fun p hp => ?_
    obtain ⟨S2, st2⟩ := S.alloc (o := .lst xs) hp
    have hn : H p = none := by
      cases e : H p with
      | none => rfl
      | some o =>
        obtain ⟨o', e'⟩ := st.dm p o e
        rw [hp] at e'; cases e'
    refine q _ _ (fun b => T b ∨ b = p) ⟨S2.less fun b z => z.elim (fun y => .inl (tg.1 b y)) .inr, st.trans st2, kp, ⟨p, rfl, hn, rfl⟩, p, _, rfl, .inr rfl, upd_same, h0_none S hp, .lst (r.mono fun a u ⟨h1, h2, h3⟩ e => ⟨⟨h1, h2, fun z => z.elim (fun y => h3 (tg.1 a y)) fun y => ne_of_none e hp y⟩, by rw [upd_ne (ne_of_none e hp)]; exact e⟩)⟩
  | nt ds =>
    obtain ⟨xs, r, hw⟩ := h
    refine hw Q fun p hp => ?_
    obtain ⟨S3, st2⟩ := S.allocT (o := .tup xs) hp
    refine q _ _ T (aft_sh S3 (st.trans st2) kp tg (.tup ⟨.inr (h0_none S hp), fun z => ?_, fun z => ?_⟩ upd_same (r.mono fun a u h e => ⟨h, by rw [upd_ne (ne_of_none e hp)]; exact e⟩)))
    · obtain ⟨o, e⟩ := own_dom S z
      rw [hp] at e; cases e
    · obtain ⟨⟨o, e⟩, _⟩ := S.tn p z
      rw [hp] at e; cases e
end
def fop2 (g : D → D → Option OutV) (fa fb : Fe) : Fe := fun ρ => (fa ρ).bind fun x => (fb x.2).bind fun y => (dat y.2 x.1).bind fun da => (dat y.2 y.1).bind fun db => (g da db).map fun o => (rvOf o, y.2)
def Op2 (r : R2) (g : D → D → Option OutV) : Prop := ∀ S H x y dx dy o, Top S H x dx → Top S H y dy → g dx dy = some o → Does S H o (r x y H)
def fop1 (g : D → Option OutV) (fa : Fe) : Fe := fun ρ => (fa ρ).bind fun x => (dat x.2 x.1).bind fun da => (g da).map fun o => (rvOf o, x.2)
def Op1 (r : V → Hp → VK → Prop) (g : D → Option OutV) : Prop := ∀ S H x dx o, Top S H x dx → g dx = some o → Does S H o (r x H)
def fopA (g : List D → Option OutV) (fs : Fa) : Fe := fun ρ => (fs ρ).bind fun x => (datA x.2 x.1).bind fun ds => (g ds).map fun o => (rvOf o, x.2)
def OpA (r : List V → Hp → VK → Prop) (g : List D → Option OutV) : Prop := ∀ S H xs ds o, TopA S H xs ds → g ds = some o → Does S H o (r xs H)
def fbool (f : Fe) : Ft := fun ρ => (f ρ).bind fun x => match x.1 with
  | .sh (.bool b) => some (b, x.2)
  | _ => none
section
variable {X : Cx} {a b : Expr} {es : List Expr} {fa fb : Fe} {fs : Fa} {pos : Pos}
theorem op2_core {r : R2} {g : D → D → Option OutV} (ha : DE X a fa) (hb : DE X b fb) (hg : Op2 r g) {P T σ ρ H rv ρ'} (S : Sim P T σ ρ H) (hf : fop2 g fa fb ρ = some (rv, ρ')) {Q : VK}
    (q : ∀ v H' T', Aft P T σ ρ H rv ρ' v H' T' → Q v H') : tOp r (WE X a) (WE X b) σ H Q := by
  simp only [fop2, Option.bind_eq_some_iff, Option.map_eq_some_iff] at hf
  obtain ⟨⟨ra, ρ1⟩, h1, ⟨rb, ρ2⟩, h2, da, h3, db, h4, o, h5, h6⟩ := hf
  cases h6
  refine ha P T σ ρ H ra ρ1 S h1 _ fun v H1 T1 A1 => hb P T1 σ ρ1 H1 rb ρ2 A1.sim h2 _ fun w H2 T2 A2 => ?_
  have V1 := A1.val.step A1.sim A2.stp A2.kp A2.tx.tg
  exact does_fin A2.sim (A1.stp.trans A2.stp) (A1.kp.trans A2.kp) (A1.tx.tg.trans A2.tx.tg A1.stp.dm) (hg _ _ v w da db o (V1.top A2.sim h3) (A2.val.top A2.sim h4) h5) q
theorem op1_core {r : V → Hp → VK → Prop} {g : D → Option OutV} (ha : DE X a fa) (hg : Op1 r g) {P T σ ρ H rv ρ'} (S : Sim P T σ ρ H) (hf : fop1 g fa ρ = some (rv, ρ')) {Q : VK}
    (q : ∀ v H' T', Aft P T σ ρ H rv ρ' v H' T' → Q v H') : WE X a σ H fun x H1 => r x H1 Q := by
  simp only [fop1, Option.bind_eq_some_iff, Option.map_eq_some_iff] at hf
  obtain ⟨⟨ra, ρ1⟩, h1, da, h3, o, h5, h6⟩ := hf
  cases h6
  refine ha P T σ ρ H ra ρ1 S h1 _ fun v H1 T1 A1 => ?_
  exact does_fin A1.sim A1.stp A1.kp A1.tx.tg (hg _ _ v da o (A1.val.top A1.sim h3) h5) q
theorem opA_core {r : List V → Hp → VK → Prop} {g : List D → Option OutV} (ha : DA X es fs) (hg : OpA r g) {P T σ ρ H rv ρ'} (S : Sim P T σ ρ H) (hf : fopA g fs ρ = some (rv, ρ')) {Q : VK}
    (q : ∀ v H' T', Aft P T σ ρ H rv ρ' v H' T' → Q v H') : WA X es σ H fun xs H1 => r xs H1 Q := by
  simp only [fopA, Option.bind_eq_some_iff, Option.map_eq_some_iff] at hf
  obtain ⟨⟨rs, ρ1⟩, h1, ds, h3, o, h5, h6⟩ := hf
  cases h6
  refine ha P T σ ρ H rs ρ1 S h1 _ fun vs H1 T1 _ A1 => ?_
  exact does_fin A1.sim A1.stp A1.kp A1.tg (hg _ _ vs ds o (A1.val.top A1.sim h3) h5) q
theorem de_bin {op : Operator} {r : R2} {g : D → D → Option OutV} (ho : OpR X (binaryOp op) r) (hg : Op2 r g) (ha : DE X a fa) (hb : DE X b fb) : DE X (.BinOp a op b pos) (fop2 g fa fb) :=
  fun P T σ ρ H rv ρ' S hf Q q => PE.we (pe_op ho peW peW) (op2_core ha hb hg S hf q)
theorem de_un {op : UnaryOp} {r : V → Hp → VK → Prop} {g : D → Option OutV} (ho : UnR X (unaryOp op) r) (hg : Op1 r g) (ha : DE X a fa) : DE X (.UnaryOp op a pos) (fop1 g fa) :=
  fun P T σ ρ H rv ρ' S hf Q q => PE.we (pe_un ho peW) (op1_core ha hg S hf q)
theorem de_cmp {op : CmpOp} {r : R2} {g : D → D → Option OutV} (ho : OpR X (compareOp op) r) (hg : Op2 r g) (ha : DE X a fa) (hb : DE X b fb) (hm : behindInMarks op b = false) : DE X (.Compare a [op] [b] pos) (fop2 g fa fb) :=
  fun P T σ ρ H rv ρ' S hf Q q => PE.we (pe_cmpR ho peW peW hm) (op2_core ha hb hg S hf q)
theorem bool_aft {f : Fe} {c : Bool} {ρ ρ' : En} (hf : fbool f ρ = some (c, ρ')) : f ρ = some (.sh (.bool c), ρ') := by
  simp only [fbool, Option.bind_eq_some_iff] at hf
  obtain ⟨⟨r, ρ1⟩, h1, h2⟩ := hf
  cases r with
  | sh d =>
    cases d with
    | bool b => cases h2; exact h1
    | _ => cases h2
  | fr d => cases h2
  | al i => cases h2
theorem Aft.bool {P T σ ρ H v H' T'} {c : Bool} {ρ' : En} (A : Aft P T σ ρ H (.sh (.bool c)) ρ' v H' T') : v = .bl c ∧ Sim P T σ ρ' H' := by
  obtain ⟨S, st, kp, tx, vl⟩ := A
  have e : T' = T := tx
  subst e
  cases (show Rep _ _ _ _ from vl)
  exact ⟨rfl, S⟩
theorem dt_cmp {op : CmpOp} {r : R2} {g : D → D → Option OutV} (ho : OpR X (compareOp op) r) (hg : Op2 r g) (ha : DE X a fa) (hb : DE X b fb) (hm : behindInMarks op b = false) : DT X (.Compare a [op] [b] pos) (fbool (fop2 g fa fb)) := by
  intro P T σ ρ H c ρ' S hf Q q
  have hf' := bool_aft hf
  refine PT.wt (pt_cmpR ho peW peW hm) (op2_core ha hb hg S hf' fun v H' T' A => ?_)
  obtain ⟨e, S'⟩ := A.bool
  exact ⟨c, e, q H' S' A.stp A.kp⟩
/-- any other expression whose value is a bool, as a test -/
theorem dt_val {e : Expr} {f : Fe} (h : DE X e f) (he : ∀ whole, isTrue e X.env whole = (do let v ← whole; standAt e.pos; holding [v] (truthy v)) := by intro _; rfl) : DT X e (fbool f) := by
  intro P T σ ρ H c ρ' S hf Q q
  have hf' := bool_aft hf
  refine PT.wt (pt_val peW he) (h P T σ ρ H _ ρ' S hf' _ fun v H' T' A => ?_)
  obtain ⟨e, S'⟩ := A.bool
  exact ⟨c, e, q H' S' A.stp A.kp⟩
/-- index, slice -/
theorem de_ix {r : R2} {g : D → D → Option OutV} (hr : IxR X r) (hg : Op2 r g) (ha : DE X a fa) (hb : DE X b fb) (hs : PlainIx b := by intro _ _; rfl) : DE X (.Subscript a b pos) (fop2 g fa fb) :=
  fun P T σ ρ H rv ρ' S hf Q q => PE.we (pe_ix hr peW peW hs) (op2_core ha hb hg S hf q)
/-- f(..) of a built-in -/
theorem de_callB {x : Str} {id : String} {e : Expr} {p : Pos} {r : List V → Hp → VK → Prop} {g : List D → Option OutV} (hc : CallR X (.builtin id) r) (hg : OpA r g) (hgl : Gl X x) (hm : X.mg x = none) (hv : bootBuiltins x = some (.builtin id)) (ha : DA X (e :: es) fs) (hn : x ≠ "__name__" := by decide) (hdb : (x == ("__debug__" : Str)) = false := by decide)
    (he : starEach (e :: es) X.env = (false, eval e X.env) :: starEach es X.env := by rfl) (hpl : (backTo pos (starEach es X.env)).any (·.1) = false := by rfl) : DE X (.Call (.Name x p) (e :: es) [] pos) (fopA g fs) :=
  fun P T σ ρ H rv ρ' S hf Q q => PE.we (pe_callB hc hgl hm hv paW hn hdb he hpl) (opA_core ha hg S hf q)
theorem de_callTy {x : Str} {Ty : String} {e : Expr} {p : Pos} {r : List V → Hp → VK → Prop} {g : List D → Option OutV} (hc : CallR X (.type Ty) r) (hg : OpA r g) (hgl : Gl X x) (hm : X.mg x = none) (hv : bootBuiltins x = some (.type Ty)) (ha : DA X (e :: es) fs) (hn : x ≠ "__name__" := by decide) (hdb : (x == ("__debug__" : Str)) = false := by decide)
    (he : starEach (e :: es) X.env = (false, eval e X.env) :: starEach es X.env := by rfl) (hpl : (backTo pos (starEach es X.env)).any (·.1) = false := by rfl) : DE X (.Call (.Name x p) (e :: es) [] pos) (fopA g fs) :=
  fun P T σ ρ H rv ρ' S hf Q q => PE.we (pe_callTy hc hgl hm hv paW hn hdb he hpl) (opA_core ha hg S hf q)
end
def fnil : Fa := fun ρ => some ([], ρ)
def fcons (f : Fe) (fs : Fa) : Fa := fun ρ => (f ρ).bind fun x => (fs x.2).bind fun y => some (x.1 :: y.1, y.2)
def ftup (fs : Fa) : Fe := fun ρ => (fs ρ).bind fun x => (datA x.2 x.1).bind fun ds => (relA x.2 x.1).map fun ρ2 => (.sh (.tuple ds), ρ2)
def flst (fs : Fa) : Fe := fun ρ => (fs ρ).bind fun x => (datA x.2 x.1).bind fun ds => (relA x.2 x.1).map fun ρ2 => (.fr (.list ds), ρ2)
section
variable {X : Cx} {e : Expr} {es : List Expr} {f : Fe} {fs : Fa} {pos : Pos}
theorem da_nil : DA X [] fnil := by
  intro P T σ ρ H rs ρ' S hf Q q
  cases hf
  exact PA.wa pa_nil (q [] H T rfl ⟨S, .refl, .refl, .refl, trivial, trivial⟩)
theorem TxA.mono {H H' : Hp} (h : ∀ b o, H b = some o → ∃ o', H' b = some o') : ∀ {vs : List V} {rs : List RV}, TxA H' vs rs → TxA H vs rs
  | [], _, _ => by unfold TxA; trivial
  | _ :: _, [], _ => by unfold TxA; trivial
  | v :: vs, r :: rs, ⟨h1, h2⟩ => by
      refine ⟨fun d e => ?_, TxA.mono h h2⟩
      obtain ⟨a, e1, e2, e3⟩ := h1 d e
      refine ⟨a, e1, ?_, e3⟩
      cases q : H a with
      | none => rfl
      | some o =>
        obtain ⟨o', q'⟩ := h a o q
        rw [e2] at q'; cases q'
theorem da_cons (h1 : DE X e f) (h2 : DA X es fs) (hs : starEach (e :: es) X.env = (false, eval e X.env) :: starEach es X.env := by rfl) : DA X (e :: es) (fcons f fs) := by
  intro P T σ ρ H rs ρ' S hf Q q
  simp only [fcons, Option.bind_eq_some_iff] at hf
  obtain ⟨⟨r, ρ1⟩, e1, ⟨rs', ρ2⟩, e2, e3⟩ := hf
  cases e3
  refine PA.wa (pa_cons peW paW hs) ?_
  refine h1 P T σ ρ H r ρ1 S e1 _ fun v H1 T1 A1 => h2 P T1 σ ρ1 H1 rs' ρ2 A1.sim e2 _ fun vs H2 T2 hl A2 => ?_
  refine q (v :: vs) H2 T2 (by simp [hl]) ⟨A2.sim, A1.stp.trans A2.stp, A1.kp.trans A2.kp, A1.tx.tg.trans A2.tg A1.stp.dm, ⟨fun d e => ?_, TxA.mono A1.stp.dm A2.tx⟩, A1.val.step A1.sim A2.stp A2.kp A2.tg, A2.val⟩
  subst e
  obtain ⟨a, ea, hn, hT⟩ := A1.tx
  refine ⟨a, ea, hn, fun i d' e4 e5 => ?_⟩
  have z := TxA.get A2.tx e4 e5
  obtain ⟨⟨o, e6⟩, _⟩ := A1.sim.tn a (by rw [hT]; exact .inr rfl)
  rw [z] at e6; cases e6
theorem tx_not {P : Pk} {T T' : Addr → Prop} {σ : SS} {ρ ρ' : En} {H H' : Hp} {vs : List V} {rs : List RV} (A : AftA P T σ ρ H rs ρ' vs H' T') (S : Sim P T σ ρ H) : ∀ (i : Nat) (d : D) (a : Addr), rs[i]? = some (RV.fr d) → vs[i]? = some (V.ref a) → ¬ T a := fun i d a e1 e2 q => by
  have z := TxA.get A.tx e1 e2
  obtain ⟨⟨o, e⟩, _⟩ := S.tn a q
  rw [z] at e; cases e
theorem small_of {n : Nat} (h : n ≤ 1000) : n ≤ sizeLine := Nat.le_of_lt (small1000 h)
theorem de_tup {x1} (h : DA X es fs) (hl : es.length ≤ 1000 := by decide) : DE X (.Tuple es x1 pos) (ftup fs) := by
  intro P T σ ρ H r ρ' S hf Q q
  simp only [ftup, Option.bind_eq_some_iff, Option.map_eq_some_iff] at hf
  obtain ⟨⟨rs, ρ1⟩, h1, ds, h2, ρ2, h3, h4⟩ := hf
  cases h4
  refine PE.we (pe_tup paW) (h P T σ ρ H rs ρ1 S h1 _ fun vs H1 T1 hlen A => ?_)
  obtain ⟨S2, st2, kp2, r2⟩ := relA_spec A.sim A.val A.tg.1 (tx_not A S) h2 h3
  have S3 := S2.less A.tg.1
  refine ⟨small_of (by omega), fun p hp => ?_⟩
  exact does_fin (o := .nt ds) (w := fun Q => ∀ p, H1 p = none → Q (.ref p) (upd H1 p (.tup vs))) S3 (A.stp.trans st2) (A.kp.trans kp2) .refl ⟨vs, r2, fun Q hq => hq⟩ q p hp
theorem de_lst (h : DA X es fs) (hl : es.length ≤ 1000 := by decide) : DE X (.List es pos) (flst fs) := by
  intro P T σ ρ H r ρ' S hf Q q
  simp only [flst, Option.bind_eq_some_iff, Option.map_eq_some_iff] at hf
  obtain ⟨⟨rs, ρ1⟩, h1, ds, h2, ρ2, h3, h4⟩ := hf
  cases h4
  refine PE.we (pe_lst paW) (h P T σ ρ H rs ρ1 S h1 _ fun vs H1 T1 hlen A => ?_)
  obtain ⟨S2, st2, kp2, r2⟩ := relA_spec A.sim A.val A.tg.1 (tx_not A S) h2 h3
  have S3 := S2.less A.tg.1
  refine ⟨small_of (by omega), fun p hp => ?_⟩
  exact does_fin (o := .nl ds) (w := fun Q => ∀ p, H1 p = none → Q (.ref p) (upd H1 p (.lst vs))) S3 (A.stp.trans st2) (A.kp.trans kp2) .refl ⟨vs, r2, fun Q hq => hq⟩ q p hp
end
end DL
set_option Elab.async false
set_option linter.all false
set_option maxRecDepth 100000
set_option maxHeartbeats 2000000
namespace DL
open PySem PySem.Spec PyProof.Rows L2
section
variable {P : Pk} {T T2 : Addr → Prop} {σ : SS} {ρ ρ' : En} {H H' : Hp}
theorem Sim.grow (S : Sim P T σ ρ H) (tg : Tg T H T2) (up : ∀ b o, H b = some o → H' b = some o) (h2 : ∀ b, T2 b → ∃ o, H' b = some o) (h4 : ∀ b, T2 b → T b ∨ ∀ xs, H' b ≠ some (.tup xs) := by exact fun _ h => .inl h) : Sim P T2 σ ρ H' ∧ Stp σ ρ H σ ρ H' := by
  have st : Stp σ ρ H σ ρ H' := ⟨fun b o e _ => up b o e, fun b q => .inl q, fun b o e => ⟨o, up b o e⟩⟩
  have av := av_step (P := P) st tg
  refine ⟨⟨S.len, fun i d e => ?_, fun i fl d e n => ?_, S.dj, S.new, S.bx, fun b q => ⟨h2 b q, fun z => ?_⟩, fun b o e n => up b o (S.keep b o e n), fun b o e => ?_, S.sB, fun b xs e => ?_⟩, st⟩
  · obtain ⟨v, q1, q2⟩ := S.sh i d e
    exact ⟨v, q1, q2.mono av⟩
  · obtain ⟨a, o, q2, q3, q4⟩ := S.ow i fl d e n
    exact ⟨a, o, q2, up _ _ q3, q4.mono av⟩
  · rcases tg.2 b q with q | q
    · exact (S.tn b q).2 z
    · obtain ⟨o, e⟩ := own_dom S z
      rw [q] at e; cases e
  · obtain ⟨o', e'⟩ := S.dom b o e
    exact ⟨o', up b o' e'⟩
  · cases e1 : H b with
    | none =>
      refine ⟨.inr (h0_none S e1), fun q => ?_⟩
      rcases h4 b q with q | q
      · obtain ⟨⟨u, e2⟩, _⟩ := S.tn b q
        rw [e1] at e2; cases e2
      · exact q xs e
    | some o =>
      have e2 := up b o e1
      rw [e] at e2; cases e2
      refine ⟨(S.tp b xs e1).1, fun q => ?_⟩
      rcases h4 b q with q | q
      · exact (S.tp b xs e1).2 q
      · exact q xs e
theorem get_set {i j : Nat} {x : Option (Fl × D)} {y : Option (Fl × D)} (h : (ρ.set i y)[j]? = some x) : (j = i ∧ x = y) ∨ (j ≠ i ∧ ρ[j]? = some x) := by
  by_cases hj : j = i
  · subst hj
    left
    rw [List.getElem?_set] at h
    simp only [if_true] at h
    split at h
    · cases h; exact ⟨rfl, rfl⟩
    · cases h
  · right
    rw [List.getElem?_set_ne (Ne.symm hj)] at h
    exact ⟨hj, h⟩
theorem kp_set {i : Nat} {y : Fl × D} : Kp ρ (ρ.set i (some y)) := fun j x q => by
  by_cases hj : i = j
  · subst hj
    exact ⟨_, List.getElem?_set_self (List.getElem?_eq_some_iff.mp q).1⟩
  · exact ⟨x, by rw [List.getElem?_set_ne hj]; exact q⟩
/-- the list of an owned slot is changed -/
theorem Sim.mut {j : Nat} {fl : Fl} {d : D} {a : Addr} {xs : List V} {es : List D} (S : Sim P T σ ρ H) (e : ρ[j]? = some (some (fl, d))) (n : fl ≠ .sh) (ea : σ[j]? = some (some (V.ref a))) (kp : ∀ b o, b ≠ a → H b = some o → H' b = some o) (ha : H' a = some (.lst xs))
    (r : RepA (Av P T σ ρ) H' xs es) (nI : isOb d = false := by rfl) : Sim P T σ (ρ.set j (some (fl, .list es))) H' ∧ Stp σ ρ H σ (ρ.set j (some (fl, .list es))) H' := by
  have hl : j < ρ.length := (List.getElem?_eq_some_iff.mp e).1
  have ownA : Own σ ρ a := ⟨j, fl, d, e, n, ea⟩
  have ow : ∀ b, Own σ (ρ.set j (some (fl, .list es))) b → Own σ ρ b := fun b ⟨i, fl', d', h1, h2, h3⟩ => by
    rcases get_set h1 with ⟨rfl, q⟩ | ⟨_, q⟩
    · exact ⟨i, fl, d, e, n, h3⟩
    · exact ⟨i, fl', d', q, h2, h3⟩
  have ow' : ∀ b, Own σ ρ b → Own σ (ρ.set j (some (fl, .list es))) b := fun b ⟨i, fl', d', h1, h2, h3⟩ => by
    by_cases hi : j = i
    · subst hi
      exact ⟨j, fl, _, List.getElem?_set_self hl, n, h3⟩
    · exact ⟨i, fl', d', by rw [List.getElem?_set_ne hi]; exact h1, h2, h3⟩
  have st : Stp σ ρ H σ (ρ.set j (some (fl, .list es))) H' := by
    refine ⟨fun b o q nb => kp b o (fun z => nb (by rw [z]; exact ownA)) q, fun b q => .inl (ow b q), fun b o q => ?_⟩
    by_cases hb : b = a
    · subst hb; exact ⟨_, ha⟩
    · exact ⟨o, kp b o hb q⟩
  have av := av_step (P := P) st (Tg.refl (T := T) (H := H))
  have av' : ∀ b o, Av P T σ ρ b → H' b = some o → Av P T σ (ρ.set j (some (fl, .list es))) b ∧ H' b = some o := fun b o ⟨h1, h2, h3⟩ q => ⟨⟨h1, fun z => h2 (ow b z), h3⟩, q⟩
  refine ⟨⟨by rw [List.length_set]; exact S.len, fun i d' h => ?_, fun i fl' d' h n' => ?_, fun i k f1 f2 d1 d2 b h1 h2 h3 h4 h5 h6 => ?_, fun i d' b h h3 => ?_, fun i d' h => ?_, fun b q => ⟨?_, fun z => (S.tn b q).2 (ow b z)⟩, fun b o q nb => ?_, fun b o q => ?_, S.sB, fun b zs q => ?_⟩, st⟩
  · rcases get_set h with ⟨rfl, q⟩ | ⟨_, q⟩
    · cases q; exact absurd rfl n
    · obtain ⟨v, q1, q2⟩ := S.sh i d' q
      exact ⟨v, q1, q2.mono av⟩
  · rcases get_set h with ⟨rfl, q⟩ | ⟨hi, q⟩
    · cases q
      exact ⟨a, _, ea, ha, .lst (r.mono av')⟩
    · obtain ⟨b, o, q2, q3, q4⟩ := S.ow i fl' d' q n'
      refine ⟨b, o, q2, kp b _ (fun z => ?_) q3, q4.mono av⟩
      subst z
      exact hi (S.dj i j fl' fl d' d b q n' e n q2 ea)
  · have g : ∀ {i : Nat} {f1 : Fl} {d1 : D}, (ρ.set j (some (fl, .list es)))[i]? = some (some (f1, d1)) → f1 ≠ .sh → ∃ f d, ρ[i]? = some (some (f, d)) ∧ f ≠ Fl.sh := fun {i f1 d1} h h' => by
      rcases get_set h with ⟨rfl, q⟩ | ⟨_, q⟩
      · exact ⟨fl, d, e, n⟩
      · exact ⟨f1, d1, q, h'⟩
    obtain ⟨g1, c1, k1, m1⟩ := g h1 h2
    obtain ⟨g2, c2, k2, m2⟩ := g h3 h4
    exact S.dj i k g1 g2 c1 c2 b k1 m1 k2 m2 h5 h6
  · rcases get_set h with ⟨rfl, q⟩ | ⟨_, q⟩
    · cases q; exact S.new i d b e h3
    · exact S.new i d' b q h3
  · rcases get_set h with ⟨rfl, q⟩ | ⟨_, q⟩
    · cases q; exact ⟨(S.bx i d e).1, ⟨fun _ => (S.bx i d e).2.bx nI, nofun⟩⟩
    · exact S.bx i d' q
  · obtain ⟨o, q1⟩ := (S.tn b q).1
    exact st.dm b o q1
  · by_cases hb : b = a
    · subst hb
      cases fl with
      | sh => exact absurd rfl n
      | ow => rw [S.new j d b e ea] at q; cases q
      | bx => exact absurd ((S.bx j d e).2.bx nI b (by rw [← (S.bx j d e).1]; exact ea)) nb
    · exact kp b o hb (S.keep b o q nb)
  · obtain ⟨o', q'⟩ := S.dom b o q
    exact st.dm b o' q'
  · by_cases hb : b = a
    · subst hb
      rw [ha] at q
      cases q
    · cases e1 : H b with
      | none =>
        refine ⟨.inr (h0_none S e1), fun z => ?_⟩
        obtain ⟨⟨u, e2⟩, _⟩ := S.tn b z
        rw [e1] at e2; cases e2
      | some o =>
        have e2 := kp b o hb e1
        rw [q] at e2; cases e2
        exact S.tp b zs e1
end
def fnotT (f : Ft) : Ft := fun ρ => (f ρ).map fun x => (!x.1, x.2)
def forT (f g : Ft) : Ft := fun ρ => (f ρ).bind fun x => if x.1 then some (true, x.2) else g x.2
def fif (f : Ft) (fa fb : Fe) : Fe := fun ρ => (f ρ).bind fun x => if x.1 then fa x.2 else fb x.2
def fnot (f : Fe) : Fe := fun ρ => (fbool f ρ).map fun x => (.sh (.bool (!x.1)), x.2)
def fand (fa fb : Fe) : Fe := fun ρ => (fbool fa ρ).bind fun x => if x.1 then fb x.2 else some (.sh (.bool false), x.2)
section
variable {X : Cx} {a b c : Expr} {es rest : List Expr} {fa fb fc : Fe} {f g : Ft} {fs : Fa} {pos : Pos}
theorem dt_not (h : DT X a f) : DT X (.UnaryOp .Not a pos) (fnotT f) := by
  intro P T σ ρ H c ρ' S hf Q q
  simp only [fnotT, Option.map_eq_some_iff] at hf
  obtain ⟨⟨c1, ρ1⟩, h1, h2⟩ := hf
  cases h2
  exact PT.wt (pt_not ptW) (h P T σ ρ H c1 _ S h1 _ q)
theorem dw_or1 (h : DT X a f) : DW X (.BoolOp .Or [a] pos) f := by
  intro P T σ ρ H c ρ' S hf Q q
  exact PW.ww (pw_or1 ptW) (h P T σ ρ H c ρ' S hf _ q)
theorem dw_or (h : DT X a f) (h2 : DW X (.BoolOp .Or (b :: rest) pos) g) : DW X (.BoolOp .Or (a :: b :: rest) pos) (forT f g) := by
  intro P T σ ρ H c ρ' S hf Q q
  simp only [forT, Option.bind_eq_some_iff] at hf
  obtain ⟨⟨c1, ρ1⟩, e1, e2⟩ := hf
  refine PW.ww (pw_or ptW pwW) (h P T σ ρ H c1 ρ1 S e1 _ fun H1 S1 st1 kp1 => ?_)
  cases c1 with
  | false => exact h2 P T σ ρ1 H1 c ρ' S1 e2 _ fun H2 S2 st2 kp2 => q H2 S2 (st1.trans st2) (kp1.trans kp2)
  | true => cases e2; exact q H1 S1 st1 kp1
theorem tx_back {T T' : Addr → Prop} {H H1 : Hp} {v : V} {r : RV} (dm : ∀ b o, H b = some o → ∃ o', H1 b = some o') (tx : Tx T H1 v T' r) : Tx T H v T' r := by
  cases r with
  | sh d => exact tx
  | al i => exact tx
  | fr d =>
    obtain ⟨p, e, hn, hT⟩ := tx
    refine ⟨p, e, ?_, hT⟩
    cases z : H p with
    | none => rfl
    | some o =>
      obtain ⟨o', e'⟩ := dm p o z
      rw [hn] at e'; cases e'
theorem Aft.back {P T σ ρ ρ1 ρ' H H1 H2 T2 v r} (st1 : Stp σ ρ H σ ρ1 H1) (kp1 : Kp ρ ρ1) (A : Aft P T σ ρ1 H1 r ρ' v H2 T2) : Aft P T σ ρ H r ρ' v H2 T2 :=
  ⟨A.sim, st1.trans A.stp, kp1.trans A.kp, tx_back st1.dm A.tx, A.val⟩
theorem de_if (h : DT X c f) (ha : DE X a fa) (hb : DE X b fb) : DE X (.IfExp c a b pos) (fif f fa fb) := by
  intro P T σ ρ H r ρ' S hf Q q
  simp only [fif, Option.bind_eq_some_iff] at hf
  obtain ⟨⟨c1, ρ1⟩, e1, e2⟩ := hf
  refine PE.we (pe_ifExp ptW peW peW) (h P T σ ρ H c1 ρ1 S e1 _ fun H1 S1 st1 kp1 => ?_)
  cases c1 with
  | true => exact ha P T σ ρ1 H1 r ρ' S1 e2 _ fun v H2 T2 A => q v H2 T2 (A.back st1 kp1)
  | false => exact hb P T σ ρ1 H1 r ρ' S1 e2 _ fun v H2 T2 A => q v H2 T2 (A.back st1 kp1)
theorem Aft.unbool {P T σ ρ ρ' H H' T' v} {c : Bool} (A : Aft P T σ ρ H (.sh (.bool c)) ρ' v H' T') : v = .bl c ∧ Sim P T σ ρ' H' ∧ Stp σ ρ H σ ρ' H' ∧ Kp ρ ρ' := ⟨A.bool.1, A.bool.2, A.stp, A.kp⟩
theorem de_one {op} (h : DE X a fa) : DE X (.BoolOp op [a] pos) fa := fun P T σ ρ H r ρ' S hf Q q => PE.we (pe_one peW) (h P T σ ρ H r ρ' S hf Q q)
theorem de_and (ha : DE X a fa) (hb : DE X (.BoolOp .And (b :: rest) pos) fb) : DE X (.BoolOp .And (a :: b :: rest) pos) (fand fa fb) := by
  intro P T σ ρ H r ρ' S hf Q q
  simp only [fand, Option.bind_eq_some_iff] at hf
  obtain ⟨⟨c1, ρ1⟩, e1, e2⟩ := hf
  refine PE.we (pe_and peW peW) (ha P T σ ρ H _ ρ1 S (bool_aft e1) _ fun v H1 T1 A => ?_)
  obtain ⟨ev, S1, st1, kp1⟩ := A.unbool
  refine ⟨c1, ev, ?_⟩
  cases c1 with
  | true => exact hb P T σ ρ1 H1 r ρ' S1 e2 _ fun v H2 T2 A => q v H2 T2 (A.back st1 kp1)
  | false => cases e2; exact q _ H1 T (aft_sh S1 st1 kp1 .refl (.bl false))
theorem de_not (ha : DE X a fa) : DE X (.UnaryOp .Not a pos) (fnot fa) := by
  intro P T σ ρ H r ρ' S hf Q q
  simp only [fnot, Option.map_eq_some_iff] at hf
  obtain ⟨⟨c1, ρ1⟩, e1, e2⟩ := hf
  cases e2
  refine PE.we (pe_not peW) (ha P T σ ρ H _ ρ1 S (bool_aft e1) _ fun v H1 T1 A => ?_)
  obtain ⟨ev, S1, st1, kp1⟩ := A.unbool
  exact ⟨c1, ev, q _ H1 T (aft_sh S1 st1 kp1 .refl (.bl _))⟩
/-- a op1 b op2 c -/
def fchain (g g' : D → D → Option OutV) (fa fb fc : Fe) : Fe := fun ρ => (fa ρ).bind fun x => (fb x.2).bind fun y => (dat y.2 x.1).bind fun da => (dat y.2 y.1).bind fun db => (g da db).bind fun o => match o with
  | .it (.bool true) => (fc y.2).bind fun z => (dat z.2 y.1).bind fun db' => (dat z.2 z.1).bind fun dc => (g' db' dc).map fun o => (rvOf o, z.2)
  | .it (.bool false) => some (.sh (.bool false), y.2)
  | _ => none
theorem chain_core {r r' : R2} {g g' : D → D → Option OutV} (ha : DE X a fa) (hb : DE X b fb) (hc : DE X c fc) (hg : Op2 r g) (hg' : Op2 r' g') {P T σ ρ H rv ρ'} (S : Sim P T σ ρ H) (hf : fchain g g' fa fb fc ρ = some (rv, ρ')) {Q : VK}
    (q : ∀ v H' T', Aft P T σ ρ H rv ρ' v H' T' → Q v H') : tChain r r' (WE X a) (WE X b) (WE X c) σ H Q := by
  simp only [fchain, Option.bind_eq_some_iff] at hf
  obtain ⟨⟨ra, ρ1⟩, h1, ⟨rb, ρ2⟩, h2, da, h3, db, h4, o, h5, h6⟩ := hf
  refine ha P T σ ρ H ra ρ1 S h1 _ fun v H1 T1 A1 => hb P T1 σ ρ1 H1 rb ρ2 A1.sim h2 _ fun w H2 T2 A2 => ?_
  have V1 := A1.val.step A1.sim A2.stp A2.kp A2.tx.tg
  have tg2 := A1.tx.tg.trans A2.tx.tg A1.stp.dm
  have dd := hg _ _ v w da db o (V1.top A2.sim h3) (A2.val.top A2.sim h4) h5
  cases o with
  | nl ds => cases h6
  | nt ds => cases h6
  | it d =>
    cases d with
    | bool k =>
      obtain ⟨x, rx, hw⟩ := dd
      cases rx
      refine hw _ ⟨k, rfl, ?_⟩
      cases k with
      | false => cases h6; exact q _ H2 T (aft_sh A2.sim (A1.stp.trans A2.stp) (A1.kp.trans A2.kp) tg2 (.bl false))
      | true =>
        simp only [Option.bind_eq_some_iff, Option.map_eq_some_iff] at h6
        obtain ⟨⟨rc, ρ3⟩, k1, db', k2, dc, k3, o', k4, k5⟩ := h6
        cases k5
        refine hc P T2 σ ρ2 H2 rc _ A2.sim k1 _ fun z H3 T3 A3 => ?_
        have V2 := A2.val.step A2.sim A3.stp A3.kp A3.tx.tg
        exact does_fin A3.sim ((A1.stp.trans A2.stp).trans A3.stp) ((A1.kp.trans A2.kp).trans A3.kp) (tg2.trans A3.tx.tg (A1.stp.trans A2.stp).dm) (hg' _ _ w z db' dc o' (V2.top A3.sim k2) (A3.val.top A3.sim k3) k4) q
    | _ => cases h6
theorem dt_chain {op op' : CmpOp} {r r' : R2} {g g' : D → D → Option OutV} (ho : OpR X (compareOp op) r) (ho' : OpR X (compareOp op') r') (hg : Op2 r g) (hg' : Op2 r' g') (ha : DE X a fa) (hb : DE X b fb) (hc : DE X c fc)
    (hm : lastMarks [op, op'] [b, c] = false := by with_unfolding_all rfl) : DT X (.Compare a [op, op'] [b, c] pos) (fbool (fchain g g' fa fb fc)) := by
  intro P T σ ρ H k ρ' S hf Q q
  refine PT.wt (pt_chain ho ho' peW peW peW hm) (chain_core ha hb hc hg hg' S (bool_aft hf) fun v H' T' A => ?_)
  obtain ⟨e, S', st, kp⟩ := A.unbool
  exact ⟨k, e, q H' S' st kp⟩
end
def fmeth1 (j : Nat) (g : List D → List D → Option (D × List D)) (fs : Fa) : Fe := fun ρ => (fs ρ).bind fun x => (datA x.2 x.1).bind fun ds => (relA x.2 x.1).bind fun ρ2 => match ρ2[j]? with
  | some (some (.sh, _)) => none
  | some (some (fl, .list es)) => (g es ds).map fun y => (.sh y.1, ρ2.set j (some (fl, .list y.2)))
  | _ => none
def fmeth (j : Nat) (g : List D → List D → Option (D × List D)) (fs : Fa) : Fe := fun ρ => match ρ[j]? with
  | some (some (.sh, _)) => none
  | some (some (_, .list _)) => fmeth1 j g fs ρ
  | _ => none
def OpM (r : V → List V → Hp → VK → Prop) (g : List D → List D → Option (D × List D)) : Prop :=
  ∀ S H a xs es vs ds d es', H a = some (.lst xs) → RepA S H xs es → RepA S H vs ds → g es ds = some (d, es') → ∃ v xs', RepA S H xs' es' ∧ Rep S H v d ∧ ∀ Q : VK, Q v (upd H a (.lst xs')) → r (.ref a) vs H Q
section
variable {X : Cx} {e o : Expr} {es : List Expr} {fs : Fa} {pos apos ppos : Pos} {id : String} {r : V → List V → Hp → VK → Prop} {g : List D → List D → Option (D × List D)} {j : Nat}
theorem meth_core {a : Addr} (hg : OpM r g) (ha : ∀ {P T σ ρ H rs ρ'}, Sim P T σ ρ H → fs ρ = some (rs, ρ') → ∀ Q : List V → Hp → Prop, (∀ vs H' T', AftA P T σ ρ H rs ρ' vs H' T' → Q vs H') → WA X es σ H Q)
    {P T σ ρ H rv ρ'} (S : Sim P T σ ρ H) (hf : fmeth1 j g fs ρ = some (rv, ρ')) (hσ : σ[j]? = some (some (V.ref a))) {Q : VK} (q : ∀ v H' T', Aft P T σ ρ H rv ρ' v H' T' → Q v H') : WA X es σ H fun vs H1 => r (.ref a) vs H1 Q := by
  simp only [fmeth1, Option.bind_eq_some_iff] at hf
  obtain ⟨⟨rs, ρ1⟩, h1, ds, h2, ρ2, h3, h4⟩ := hf
  refine ha S h1 _ fun vs H1 T1 A => ?_
  obtain ⟨S2, st2, kp2, r2⟩ := relA_spec A.sim A.val A.tg.1 (tx_not A S) h2 h3
  have S3 := S2.less A.tg.1
  cases e1 : ρ2[j]? with
  | none => simp only [e1] at h4; cases h4
  | some x =>
    cases x with
    | none => simp only [e1] at h4; cases h4
    | some y =>
      obtain ⟨fl, d⟩ := y
      by_cases hfl : fl = .sh
      · subst hfl; simp only [e1] at h4; cases h4
      · obtain ⟨a', o, q2, q3, q4⟩ := S3.ow j fl d e1 hfl
        rw [hσ] at q2; cases q2
        cases q4 with
        | dct => simp only [e1] at h4; cases fl <;> cases h4
        | opq => simp only [e1] at h4; cases fl <;> cases h4
        | @lst xs es' q4 =>
        have h4' : (g es' ds).map (fun y => (RV.sh y.1, ρ2.set j (some (fl, PyData.list y.2)))) = some (rv, ρ') := by
          simp only [e1] at h4
          cases fl with
          | sh => exact absurd rfl hfl
          | ow => exact h4
          | bx => exact h4
        simp only [Option.map_eq_some_iff] at h4'
        obtain ⟨⟨dr, es2⟩, k1, k2⟩ := h4'
        cases k2
        obtain ⟨v, xs', r3, r4, hw⟩ := hg _ H1 a xs es' vs ds dr es2 q3 q4 r2 k1
        refine hw Q ?_
        have na : ∀ b, Av P T σ ρ2 b → b ≠ a := fun b hb z => hb.2.1 (by rw [z]; exact ⟨j, fl, _, e1, hfl, hσ⟩)
        have kp : ∀ b u, b ≠ a → H1 b = some u → (upd H1 a (.lst xs')) b = some u := fun b u hb e => by rw [upd_ne hb]; exact e
        have up : ∀ b u, Av P T σ ρ2 b → H1 b = some u → Av P T σ ρ2 b ∧ (upd H1 a (.lst xs')) b = some u := fun b u hb e => ⟨hb, kp b u (na b hb) e⟩
        obtain ⟨S4, st4⟩ := S3.mut e1 hfl hσ kp upd_same (r3.mono up)
        exact q v _ T (aft_sh S4 ((A.stp.trans st2).trans st4) ((A.kp.trans kp2).trans kp_set) .refl (r4.mono (av_step st4 .refl)))
theorem fmeth_in {rv : RV × En} {ρ : En} (hf : fmeth j g fs ρ = some rv) : (∃ fl ds, ρ[j]? = some (some (fl, .list ds)) ∧ fl ≠ Fl.sh) ∧ fmeth1 j g fs ρ = some rv := by
  unfold fmeth at hf
  cases e1 : ρ[j]? with
  | none => rw [e1] at hf; cases hf
  | some x =>
    cases x with
    | none => rw [e1] at hf; cases hf
    | some y =>
      obtain ⟨fl, d⟩ := y
      cases d with
      | list ds =>
        cases fl with
        | sh => rw [e1] at hf; cases hf
        | ow => rw [e1] at hf; exact ⟨⟨_, _, rfl, by decide⟩, hf⟩
        | bx => rw [e1] at hf; exact ⟨⟨_, _, rfl, by decide⟩, hf⟩
      | _ => rw [e1] at hf; cases fl <;> cases hf
theorem de_meth {x name : Str} (j : Nat) (slot : Slot "list" name id) (hty : typeOf (.builtin id) = pure (.type "method_descriptor")) (hm : MtR X id r) (hg : OpM r g) (ha : DA X (e :: es) fs)
    (hN : X.N[j]? = some x := by rfl) (hv : Vis X.env.scope x := by first | exact Or.inl rfl | exact Or.inr (Or.inl rfl) | exact Or.inr (Or.inr rfl)) (hd : (x == ("__debug__" : Str)) = false := by decide) (hcd : (x == ("__classdict__" : Str)) = false := by decide)
    (hbase : attributeBase (.Name x ppos) name X.env (eval (.Name x ppos) X.env) = eval (.Name x ppos) X.env := by rfl)
    (hfew : ((backTo pos (starEach (e :: es) X.env)).all (fun x => !x.1) && (backToKw pos (keywordEach [] X.env)).all (fun x => x.1.isSome)
      && decide ((e :: es).length + ([] : List Keyword).length + (if ([] : List Keyword).isEmpty then 0 else 1) < 30)) = true := by rfl)
    (hline : (apos.endLine == pos.line) = true := by rfl) (hs : starEach (e :: es) X.env = (false, eval e X.env) :: starEach es X.env := by rfl) (hplain : (backTo pos (starEach es X.env)).any (·.1) = false := by rfl) :
    DE X (.Call (.Attribute (.Name x ppos) name apos) (e :: es) [] pos) (fmeth j g fs) := by
  intro P T σ ρ H rv ρ' S hf Q q
  obtain ⟨⟨fl, ds, e1, hfl⟩, hf⟩ := fmeth_in hf
  obtain ⟨a, xs, q2, q3, q4⟩ := S.owL j fl ds e1 hfl
  refine PE.we (pe_bm PySem.F.plainAttrs_list slot hty hm (pe_var hN hv hd hcd) paW hbase hfew hline hs hplain) ⟨_, q2, .inl ⟨rfl, xs, .inl (.inl q3)⟩, ?_⟩
  exact meth_core hg (fun {P T σ ρ H rs ρ'} S h Q hq => ha P T σ ρ H rs ρ' S h Q fun vs H' T' _ A => hq vs H' T' A) S hf q2 q
end
end DL
set_option Elab.async false
set_option linter.all false
set_option maxRecDepth 100000
set_option maxHeartbeats 2000000
namespace DL
open PySem PySem.Spec PyProof.Rows L2
structure RoomG (k : Nat) (A : Around) : Prop where
  rm : Room k A
  gd : A.guards = some []
theorem RoomG.mono {j k : Nat} {A : Around} (r : RoomG k A) (h : j ≤ k) : RoomG j A := ⟨r.rm.mono h, r.gd⟩
theorem RoomG.deeper {k : Nat} {A : Around} (r : RoomG (k + 1) A) (env : Env) : RoomG k (A.deeper env) := ⟨r.rm.deeper env, r.gd⟩
theorem RoomG.units {k : Nat} {A : Around} (r : RoomG k A) : A.units + 64 < cLine := r.rm.units
/-- the kit's promise of a def, asked of such calls alone -/
structure FnG (P : Program) (w : World) (K : PySem.W.Frag) (mg : Str → Option Value) (base : Heap) (CX : CXT) (k : Nat) (f : Addr) (fd : FuncData) (ps : List Str) (sp : Sp) : Prop where
  many : ∀ vs H Q E, sp vs H Q E → vs.length = ps.length
  runs : ∀ (A : Around) (outer : List Env) (s : Shared) (H : Hp) (args : Args) (us : List Value) (vs : List V) (Q : VK) (E : XK), RoomG k A → Env0 P w K mg base A outer s H → BindsTo s fd args (ps.zip us) →
    Vals vs us → sp vs H Q E → codeAny (model P w) A (.call (.ref f) args) (CR CX outer P w H s Q E) s
section
variable {X : Cx} {CX : CXT} {k : Nat} {f : Addr} {fd : FuncData} {ps ks : List Str} {sp : Sp} {E : XK} {x : Str} {p pos : Pos} {e : Expr} {es : List Expr} {kws : List Keyword} {t tk : TA}
  {g : List Value → List Value → List Value} {gV : List V → List V → List V}
theorem FnG.go {pins : List (Addr × Obj)} {σ : L2.St} {H : Hp} {s : Shared} {Q : VK} {args : Args} {us : List Value} {vs : List V} (F : FnG X.prog X.w X.K X.mg X.base CX k f fd ps sp) (hr : RoomG k X.A) (hx : Passes CX X E) (I : Inv X pins σ H s)
    (hb : BindsTo s fd args (ps.zip us)) (r : Vals vs us) (h : sp vs H Q E) : codeAny (model X.prog X.w) X.A (.call (.ref f) args) (fun r s' => match r with
      | .ok (.ret u) => EP X pins σ Q u s'
      | .ok _ => False
      | .error e => X.xe e s') s :=
  codeAny_mono (F.runs X.A X.stack s H args us vs Q E hr I.env0 hb r h) fun r s' hq => match r, hq with
    | .error e, hq => hx pins σ H s e s' I hq
    | .ok (.ret u), hq => I.after hq
    | .ok .next, hq => hq.elim
    | .ok .brk, hq => hq.elim
    | .ok .cont, hq => hq.elim
theorem pe_callG (F : FnG X.prog X.w X.K X.mg X.base CX k f fd ps sp) (hr : RoomG k X.A) (hg : Gl X x) (hm : X.mg x = some (.ref f)) (hk : PySem.W.keepIn X.K (.ref f) = true) (hb : Binds X.K fd ps []) (hx : Passes CX X E)
    (ha : PA X (e :: es) t) (hdb : (x == ("__debug__" : Str)) = false := by decide) (he : starEach (e :: es) X.env = (false, eval e X.env) :: starEach es X.env := by rfl) (hpl : (backTo pos (starEach es X.env)).any (·.1) = false := by rfl) :
    PE X (.Call (.Name x p) (e :: es) [] pos) (tCall sp [] E t) := by
  refine ⟨fun pins s σ H Q I h => wpAny_Call_Name_kw (ld_glob I hg hm ?_ hdb)⟩
  refine PySem.W.callWith_K (h₀ := X.base) I.ok.mod.kin hk (thn (ha.run pos pins s σ H _ I h) fun us s1 ⟨vs, H1, I1, r, q⟩ => ⟨I1.kIn, ?_⟩) he hpl
  have q' : sp (vs ++ []) H1 Q E := q
  rw [List.append_nil] at q'
  have hl : (us ++ []).length = ps.length := by rw [List.append_nil, ← r.length]; exact F.many _ _ _ _ q'
  have b1 := hb s1 us I1.kIn hl
  rw [List.append_nil] at b1
  refine wpAny_call (codeAny_mono (F.go hr hx I1 b1 r q') fun r s' hq => ?_)
  match r, hq with
  | .error e, hq => exact hq
  | .ok (.ret u), hq => exact hq
end
section
variable {P : Program} {w : World} {K : PySem.W.Frag} {mg : Str → Option Value} {base : Heap} {CX : CXT}
theorem FnG.mono {j k : Nat} {f : Addr} {fd : FuncData} {ps : List Str} {sp : Sp} (F : FnG P w K mg base CX j f fd ps sp) (h : j ≤ k) : FnG P w K mg base CX k f fd ps sp :=
  ⟨F.many, fun A outer s H args us vs Q E hr => F.runs A outer s H args us vs Q E (hr.mono h)⟩
/-- the promise of a def, from its body -/
theorem fnG_of {k : Nat} {x qual : Str} {st : Stmt} {f : Addr} {fd : FuncData} {N ps : List Str} {sp : Sp} (F : Fun K x qual st f fd) (S : FnScope N ps (defScope st)) (len : ∀ vs H Q E, sp vs H Q E → vs.length = ps.length)
    (hbody : ∀ (cdv : Value) (A : Around) (outer : List Env) (s : Shared) (H : Hp) (vs : List V) (Q : VK) (E : XK), RoomG k (A.deeper (envOfC qual (defScope st) s.heap.objs.size f cdv)) → sp vs H Q E →
      ∃ t, PSs (cxOf CX P w K mg base N qual (defScope st) f cdv A outer s H E).nox (defBody st) t ∧ t { nx := fun _ H' => Q .non H', rt := Q } (start N vs) H) : FnG P w K mg base CX (k + 1) f fd ps sp := by
  obtain ⟨oc, od, kV, doc, pm, an, cdv, ct, osl, rfl, lk, hcd⟩ := F.ex
  refine ⟨len, fun A outer s H args us vs Q E hr e0 hb r hsp => ?_⟩
  have old : ∀ b o, base.get? b = some o → s.heap.get? b = some o := fun b o e => (e0.bs b o e).1
  have KX := e0.mod.kin.keeps old
  have hl := len _ _ _ _ hsp
  refine codeAny_call_function hr.rm.depth (KX _ _ lk) rfl S.co S.gen rfl (PySem.W.codeRec_of KX hcd) (hb _ _ _ _ (wpAny_newFunctionEnv_cells S.kind (fun y hy => ?_) fun env he s1 x => ?_))
  · rcases S.par y.1 (List.of_mem_zip hy).1 with q | q
    · exact .inl q
    · exact .inr ⟨q, PySem.W.cellsFrom_some _ _ _ (.inl q)⟩
  · subst he
    obtain ⟨t, ht, hq⟩ := hbody cdv A outer s H vs Q E (hr.deeper _) hsp
    have I : Inv (cxOf CX P w K mg base N qual (defScope st) f cdv A outer s H E) [] (start N vs) H s1 := inv_start S hr.rm.hd e0 hl r x
    refine ⟨(e0.mod.nolimit.keeps old).keeps x.toInCall.keep, codeAny_func (wpAny_mono (ht.nox.run [] s1 (start N vs) H _ I hq) (fun fl s' hs => ?_) fun e s' hs => hs)⟩
    match fl, hs with
    | .ret u, ⟨v, σ', H', J, rv, q⟩ => exact ⟨v, H', J.os, J.bare, J.base, J.hok, rv, q⟩
    | .next, ⟨σ', H', J, q⟩ => exact ⟨V.non, H', J.os, J.bare, J.base, J.hok, rfl, q⟩
    | .brk, ⟨_, _, _, q⟩ => exact q.elim
    | .cont, ⟨_, _, _, q⟩ => exact q.elim
end
end DL
set_option Elab.async false
set_option linter.all false
set_option maxRecDepth 100000
set_option maxHeartbeats 2000000
namespace DL
open PySem PySem.Spec PyProof.Rows L2
/-- a def's answer: is it a new list; the value; what the box holds behind -/
structure FR where
  fr : Bool
  d : D
  bx : List D
abbrev FS := List D → Option FR
def IsBx (k : Option Nat) (vs : List V) (b : Addr) : Prop := ∃ i, k = some i ∧ vs[i]? = some (V.ref b)
structure ArgsOk (k : Option Nat) (S : Addr → Prop) (H : Hp) (vs : List V) (ds : List D) : Prop where
  len : vs.length = ds.length
  sh : ∀ (i : Nat) (v : V) (d : D), k ≠ some i → vs[i]? = some v → ds[i]? = some d → Rep S H v d
  bx : ∀ (i : Nat) (v : V) (d : D), k = some i → vs[i]? = some v → ds[i]? = some d → ∃ a xs es, v = V.ref a ∧ d = .list es ∧ H a = some (.lst xs) ∧ RepA S H xs es ∧ ¬ S a
  tp : ∀ b xs, H b = some (.tup xs) → S b
def Nw (S : Addr → Prop) (H : Hp) (T : Addr → Prop) (b : Addr) : Prop := (S b ∨ H b = none) ∧ ¬ T b
structure PostF (k : Option Nat) (S : Addr → Prop) (H : Hp) (vs : List V) (r : FR) (v : V) (H' : Hp) (T : Addr → Prop) : Prop where
  keep : ∀ b o, H b = some o → ¬ IsBx k vs b → H' b = some o
  dom : ∀ b o, H b = some o → ∃ o', H' b = some o'
  tn : ∀ b, T b → H b = none
  res : r.fr = false → Rep (Nw S H T) H' v r.d
  fr : r.fr = true → ∃ a o, v = V.ref a ∧ T a ∧ H' a = some o ∧ OwnC (Nw S H T) H' o r.d
  bx : ∀ b, IsBx k vs b → ∃ xs, H' b = some (.lst xs) ∧ RepA (Nw S H T) H' xs r.bx
def spD (k : Option Nat) (F : FS) : Sp := fun vs H Q _ => ∃ (S : Addr → Prop) (ds : List D) (r : FR), F ds = some r ∧ ArgsOk k S H vs ds ∧ ∀ v H' T, PostF k S H vs r v H' T → Q v H'
def hasAl (j : Nat) (rs : List RV) : Bool := rs.any fun r => match r with
  | .al i => i == j
  | _ => false
def setNo (k : Option Nat) (rs : List RV) : List RV := match k with
  | some i => rs.set i (.sh .none)
  | none => rs
def frOf (r : FR) : RV := if r.fr then .fr r.d else .sh r.d
def lone (k : Option Nat) (r : FR) : Bool := atom r.d && (k.isNone || r.bx.all atom)
def fcallEnd (k : Option Nat) (rs : List RV) (ρ1 : En) (r : FR) : Option (RV × En) :=
  (if lone k r then some ρ1 else relA ρ1 (setNo k rs)).bind fun ρ2 => match k with
  | none => some (frOf r, ρ2)
  | some i => match rs[i]? with
    | some (.al j) => if hasAl j (rs.set i (.sh .none)) then none else match ρ2[j]? with
      | some (some (.sh, _)) => none
      | some (some (fl, .list _)) => some (frOf r, ρ2.set j (some (fl, .list r.bx)))
      | _ => none
    | _ => none
def fcall (k : Option Nat) (F : FS) (fs : Fa) : Fe := fun ρ => (fs ρ).bind fun x => (datA x.2 x.1).bind fun ds => (F ds).bind fun r => fcallEnd k x.1 x.2 r
section
variable {P : Pk} {T T' : Addr → Prop} {σ : SS} {ρ ρ' : En} {H H' : Hp} {v : V} {r : RV}
/-- a value read with all that is tracked but some owned objects -/
theorem Val.wide {Z : Addr → Prop} {d : D} (V0 : Val P T σ ρ H v r) (S : Sim P T σ ρ H) (hd : dat ρ r = some d) (hz : ∀ b, Z b → ∃ (j : Nat) (fl : Fl) (e : D), ρ[j]? = some (some (fl, e)) ∧ fl ≠ .sh ∧ σ[j]? = some (some (V.ref b)) ∧ r ≠ .al j) : Rep (fun b => (∃ o, H b = some o) ∧ ¬ Z b) H v d := by
  have zo : ∀ b, Z b → Own σ ρ b := fun b q => by
    obtain ⟨j, fl, e, h1, h2, h3, _⟩ := hz b q
    exact ⟨j, fl, e, h1, h2, h3⟩
  have up : ∀ a o, Av P T σ ρ a → H a = some o → ((∃ o, H a = some o) ∧ ¬ Z a) ∧ H a = some o := fun a o ⟨_, h2, _⟩ e => ⟨⟨⟨o, e⟩, fun q => h2 (zo a q)⟩, e⟩
  cases r with
  | sh e => cases hd; exact Rep.mono V0 up
  | fr e =>
    cases hd
    obtain ⟨a, o, e1, ta, ha, hn, hr⟩ := V0
    subst e1
    exact (hr.mono up).rep ⟨⟨_, ha⟩, fun q => (S.tn a ta).2 (zo a q)⟩ ha
  | al i =>
    obtain ⟨e1, _⟩ := V0
    obtain ⟨fl, e2⟩ := dat_al hd
    by_cases hf : fl = .sh
    · subst hf
      obtain ⟨v', q1, q2⟩ := S.sh i d e2
      rw [e1] at q1; cases q1
      exact q2.mono up
    · obtain ⟨a, o, q2, q3, q4⟩ := S.ow i fl d e2 hf
      rw [e1] at q2; cases q2
      refine (q4.mono up).rep ⟨⟨_, q3⟩, fun q => ?_⟩ q3
      obtain ⟨j, fl', e, h1, h2, h3, h4⟩ := hz a q
      have := S.dj i j fl fl' _ e a e2 hf h1 h2 e1 h3
      subst this
      exact h4 rfl
theorem hasAl_no {j : Nat} {rs : List RV} (h : hasAl j rs = false) {i : Nat} {r : RV} (e : rs[i]? = some r) : r ≠ .al j := by
  intro z
  subst z
  have : hasAl j rs = true := List.any_eq_true.mpr ⟨_, List.mem_of_getElem? e, by simp⟩
  rw [h] at this; cases this
theorem relA_keep {j : Nat} : ∀ {rs : List RV} {ρ ρ' : En}, relA ρ rs = some ρ' → hasAl j rs = false → ρ'[j]? = ρ[j]?
  | [], ρ, ρ', h, _ => by cases h; rfl
  | r :: rs, ρ, ρ', h, ha => by
    unfold relA at h
    cases e : rel ρ r with
    | none => rw [e] at h; cases h
    | some ρ1 =>
      rw [e] at h
      have h : relA ρ1 rs = some ρ' := h
      have h1 : hasAl j rs = false := by
        unfold hasAl at ha ⊢
        rw [List.any_cons, Bool.or_eq_false_iff] at ha
        exact ha.2
      rw [relA_keep h h1]
      rcases rel_spec e with rfl | ⟨i, d, rfl, e2, rfl⟩
      · rfl
      · have : i ≠ j := fun z => by
          subst z
          unfold hasAl at ha
          simp at ha
        exact List.getElem?_set_ne this
theorem ValA.set {v : V} {r : RV} (q : Val P T σ ρ H v r) : ∀ {vs : List V} {rs : List RV} {i : Nat}, ValA P T σ ρ H vs rs → ValA P T σ ρ H (vs.set i v) (rs.set i r)
  | [], [], _, _ => trivial
  | w :: vs, s :: rs, 0, h => ⟨q, h.2⟩
  | w :: vs, s :: rs, i + 1, h => ⟨h.1, ValA.set (i := i) q h.2⟩
  | [], _ :: _, _, h => h.elim
  | _ :: _, [], _, h => h.elim
theorem datA_set {r : RV} {d : D} (q : dat ρ r = some d) : ∀ {rs : List RV} {ds : List D} {i : Nat}, datA ρ rs = some ds → datA ρ (rs.set i r) = some (ds.set i d)
  | [], ds, i, h => by cases h; rfl
  | s :: rs, ds, i, h => by
    unfold datA at h
    cases e1 : dat ρ s with
    | none => rw [e1] at h; cases h
    | some d1 =>
      cases e2 : datA ρ rs with
      | none => rw [e1, e2] at h; cases h
      | some ds1 =>
        rw [e1, e2] at h
        cases h
        cases i with
        | zero => show datA ρ (r :: rs) = _; unfold datA; rw [q, e2]; rfl
        | succ i => show datA ρ (s :: rs.set i r) = _; unfold datA; rw [e1, datA_set q e2]; rfl
theorem datA_get : ∀ {rs : List RV} {ds : List D} {i : Nat} {r : RV}, datA ρ rs = some ds → rs[i]? = some r → ∃ d, dat ρ r = some d ∧ ds[i]? = some d
  | [], ds, i, r, h, e => by simp at e
  | s :: rs, ds, i, r, h, e => by
    unfold datA at h
    cases e1 : dat ρ s with
    | none => rw [e1] at h; cases h
    | some d1 =>
      cases e2 : datA ρ rs with
      | none => rw [e1, e2] at h; cases h
      | some ds1 =>
        rw [e1, e2] at h
        cases h
        cases i with
        | zero => simp at e; subst e; exact ⟨d1, e1, rfl⟩
        | succ i =>
          obtain ⟨d, q1, q2⟩ := datA_get (i := i) e2 (by simpa using e)
          exact ⟨d, q1, by simpa using q2⟩
theorem datA_len : ∀ {rs : List RV} {ds : List D}, datA ρ rs = some ds → ds.length = rs.length
  | [], ds, h => by cases h; rfl
  | s :: rs, ds, h => by
    unfold datA at h
    cases e1 : dat ρ s with
    | none => rw [e1] at h; cases h
    | some d1 =>
      cases e2 : datA ρ rs with
      | none => rw [e1, e2] at h; cases h
      | some ds1 =>
        rw [e1, e2] at h
        cases h
        simp [datA_len e2]
theorem ValA.vget : ∀ {vs : List V} {rs : List RV} {i : Nat} {v : V}, ValA P T σ ρ H vs rs → vs[i]? = some v → ∃ r, rs[i]? = some r ∧ Val P T σ ρ H v r
  | [], [], i, r, _, e => by simp at e
  | v :: vs, q :: rs, i, r, h, e => by
    cases i with
    | zero => simp at e; subst e; exact ⟨q, rfl, h.1⟩
    | succ i =>
      obtain ⟨w, h1, h2⟩ := ValA.vget (i := i) (v := r) h.2 (by simpa using e)
      exact ⟨w, by simpa using h1, h2⟩
  | [], _ :: _, _, _, h, _ => h.elim
  | _ :: _, [], _, _, h, _ => h.elim
/-- behind the arguments: the call -/
theorem call_core {k : Option Nat} {F : FS} {rs : List RV} {ρ1 ρ3 : En} {H1 : Hp} {T1 : Addr → Prop} {vs : List V} {ds : List D} {fr : FR} {rv : RV} {Q : VK} {E : XK} (S0 : Sim P T σ ρ H) (A : AftA P T σ ρ H rs ρ1 vs H1 T1) (hd : datA ρ1 rs = some ds) (hF : F ds = some fr)
    (he : fcallEnd k rs ρ1 fr = some (rv, ρ3)) (q : ∀ v H' T', Aft P T σ ρ H rv ρ3 v H' T' → Q v H') : spD k F vs H1 Q E := by
  simp only [fcallEnd, Option.bind_eq_some_iff] at he
  obtain ⟨ρ2, e2, e3⟩ := he
  -- the env behind the letting go
  have rel2 : Sim P T1 σ ρ2 H1 ∧ Stp σ ρ1 H1 σ ρ2 H1 ∧ Kp ρ1 ρ2 ∧ (lone k fr = false → ∀ (i : Nat) (v : V) (d : D), k ≠ some i → vs[i]? = some v → ds[i]? = some d → Rep (Av P T σ ρ2) H1 v d) := by
    by_cases hl : lone k fr = true
    · rw [if_pos hl] at e2; cases e2
      exact ⟨A.sim, .refl, .refl, fun z => by rw [hl] at z; cases z⟩
    · rw [if_neg hl] at e2
      have tx := tx_not A S0
      cases k with
      | none =>
        obtain ⟨S2, st2, kp2, r2⟩ := relA_spec A.sim A.val A.tg.1 tx hd e2
        refine ⟨S2, st2, kp2, fun _ i v d _ h1 h2 => ?_⟩
        obtain ⟨d', q1, q2⟩ := r2.get h1
        rw [h2] at q1; cases q1; exact q2
      | some i0 =>
        have hv : ValA P T1 σ ρ1 H1 (vs.set i0 .non) (rs.set i0 (.sh .none)) := ValA.set (v := .non) (r := .sh .none) (show Rep _ _ _ _ from Rep.non) A.val
        obtain ⟨S2, st2, kp2, r2⟩ := relA_spec A.sim hv A.tg.1 (fun i d a h1 h2 => by
          by_cases hi : i0 = i
          · subst hi
            rw [List.getElem?_set] at h1
            simp only [if_true] at h1
            split at h1 <;> cases h1
          · rw [List.getElem?_set_ne hi] at h1 h2
            exact tx i d a h1 h2) (datA_set (i := i0) (r := .sh .none) (d := .none) rfl hd) e2
        refine ⟨S2, st2, kp2, fun _ i v d hk h1 h2 => ?_⟩
        have hi : i0 ≠ i := fun z => hk (by rw [z])
        obtain ⟨d', q1, q2⟩ := r2.get (i := i) (v := v) (by rw [List.getElem?_set_ne hi]; exact h1)
        rw [List.getElem?_set_ne hi, h2] at q1; cases q1; exact q2
  obtain ⟨S2, st2, kp2, hrep⟩ := rel2
  have S2T := S2.less A.tg.1
  -- the box
  have box : (∀ b, ¬ IsBx k vs b) ∧ rv = frOf fr ∧ ρ3 = ρ2 ∧ k = none ∨ ∃ (i j : Nat) (fl : Fl) (es : List D) (a : Addr) (xs : List V), k = some i ∧ rs[i]? = some (.al j) ∧ hasAl j (rs.set i (.sh .none)) = false ∧ ρ2[j]? = some (some (fl, .list es)) ∧ fl ≠ .sh ∧ σ[j]? = some (some (V.ref a)) ∧ H1 a = some (.lst xs) ∧ RepA (Av P T σ ρ2) H1 xs es ∧
      ρ1[j]? = some (some (fl, .list es)) ∧ vs[i]? = some (V.ref a) ∧ ds[i]? = some (.list es) ∧ rv = frOf fr ∧ ρ3 = ρ2.set j (some (fl, .list fr.bx)) := by
    cases k with
    | none => cases e3; exact .inl ⟨fun b ⟨i, h, _⟩ => (nomatch h), rfl, rfl, rfl⟩
    | some i =>
      right
      cases h1 : rs[i]? with
      | none => simp only [h1] at e3; cases e3
      | some r =>
        cases r with
        | sh d => simp only [h1] at e3; cases e3
        | fr d => simp only [h1] at e3; cases e3
        | al j =>
          simp only [h1] at e3
          by_cases ha : hasAl j (rs.set i (.sh .none)) = true
          · rw [if_pos ha] at e3; cases e3
          · rw [if_neg ha] at e3
            have ha : hasAl j (rs.set i (.sh .none)) = false := by simpa using ha
            cases h2 : ρ2[j]? with
            | none => simp only [h2] at e3; cases e3
            | some x =>
              cases x with
              | none => simp only [h2] at e3; cases e3
              | some y =>
                obtain ⟨fl, d⟩ := y
                by_cases hfl : fl = .sh
                · subst hfl; simp only [h2] at e3; cases e3
                · obtain ⟨a, o, q2, q3, q4⟩ := S2T.ow j fl d h2 hfl
                  cases q4 with
                  | dct => simp only [h2] at e3; cases fl <;> cases e3
                  | opq => simp only [h2] at e3; cases fl <;> cases e3
                  | @lst xs es q4 =>
                  have e3' : some (frOf fr, ρ2.set j (some (fl, PyData.list fr.bx))) = some (rv, ρ3) := by
                    simp only [h2] at e3
                    cases fl with
                    | sh => exact absurd rfl hfl
                    | ow => exact e3
                    | bx => exact e3
                  cases e3'
                  have h3 : ρ1[j]? = some (some (fl, .list es)) := by
                    by_cases hl : lone (some i) fr = true
                    · rw [if_pos hl] at e2; cases e2; exact h2
                    · rw [if_neg hl] at e2
                      rw [← relA_keep e2 ha]; exact h2
                  obtain ⟨v, k1, k2⟩ := A.val.get h1
                  obtain ⟨k3, _⟩ := k2
                  rw [q2] at k3; cases k3
                  obtain ⟨d', k4, k5⟩ := datA_get hd h1
                  rw [dat_al', h3] at k4; cases k4
                  exact ⟨i, j, fl, es, a, xs, rfl, h1, ha, h2, hfl, q2, q3, q4, h3, k1, k5, rfl, rfl⟩
  have isbx : ∀ b, IsBx k vs b → ∃ (i j : Nat) (fl : Fl) (e : D), k = some i ∧ rs[i]? = some (.al j) ∧ hasAl j (rs.set i (.sh .none)) = false ∧ ρ1[j]? = some (some (fl, e)) ∧ fl ≠ .sh ∧ σ[j]? = some (some (V.ref b)) := fun b hb => by
    rcases box with ⟨h, _⟩ | ⟨i, j, fl, es, a, xs, h1, h2, h3, h4, h5, h6, h7, h8, h9, h10, _⟩
    · exact (h b hb).elim
    · obtain ⟨i', z1, z2⟩ := hb
      rw [h1] at z1; cases z1
      rw [h10] at z2; cases z2
      exact ⟨i, j, fl, _, h1, h2, h3, h9, h5, h6⟩
  have bxown : ∀ b, IsBx k vs b → Own σ ρ2 b := fun b hb => by
    rcases box with ⟨h, _⟩ | ⟨i, j, fl, es, a, xs, h1, h2, h3, h4, h5, h6, h7, h8, h9, h10, _⟩
    · exact (h b hb).elim
    · obtain ⟨i', z1, z2⟩ := hb
      rw [h1] at z1; cases z1
      rw [h10] at z2; cases z2
      exact ⟨j, fl, _, h4, h5, h6⟩
  refine ⟨fun b => (∃ o, H1 b = some o) ∧ ¬ IsBx k vs b ∧ (lone k fr = false → Av P T σ ρ2 b), ds, fr, hF, ⟨?_, fun i v d hk h1 h2 => ?_, fun i v d hk h1 h2 => ?_, fun b zs hz => ?_⟩, fun v H' T3 po => ?_⟩
  · rw [A.val.length, datA_len hd]
  · by_cases hl : lone k fr = true
    · obtain ⟨r, r1, r2⟩ := A.val.vget h1
      obtain ⟨d', k1, k2⟩ := datA_get hd r1
      rw [h2] at k2; cases k2
      refine (r2.wide (Z := IsBx k vs) A.sim k1 fun b hb => ?_).mono fun a o ⟨z1, z2⟩ e => ⟨⟨z1, z2, fun z => by rw [hl] at z; cases z⟩, e⟩
      obtain ⟨i', j, fl, e, y1, y2, y3, y4, y5, y6⟩ := isbx b hb
      refine ⟨j, fl, e, y4, y5, y6, ?_⟩
      have hi : i' ≠ i := fun z => hk (by rw [y1, z])
      exact hasAl_no y3 (by rw [List.getElem?_set_ne hi]; exact r1)
    · have hl : lone k fr = false := by simpa using hl
      exact (hrep hl i v d hk h1 h2).mono fun a o z e => ⟨⟨⟨o, e⟩, fun hb => z.2.1 (bxown a hb), fun _ => z⟩, e⟩
  · rcases box with ⟨_, _, _, h⟩ | ⟨i', j, fl, es, a, xs, y1, y2, y3, y4, y5, y6, y7, y8, y9, y10, y11, _⟩
    · rw [h] at hk; cases hk
    · rw [y1] at hk
      obtain rfl : i' = i := Option.some.inj hk
      rw [y10] at h1; cases h1
      rw [y11] at h2; cases h2
      exact ⟨a, xs, es, rfl, rfl, y7, y8.mono fun b o z e => ⟨⟨⟨o, e⟩, fun hb => z.2.1 (bxown b hb), fun _ => z⟩, e⟩, fun z => z.2.1 ⟨i', y1, y10⟩⟩
  · obtain ⟨t1, t2⟩ := S2T.tp b zs hz
    have no := tup_own S2T hz
    exact ⟨⟨_, hz⟩, fun hb => no (bxown b hb), fun _ => ⟨t1, no, t2⟩⟩
  -- behind the call
  · have nw : lone k fr = false → ∀ T2 : Addr → Prop, (∀ b, T2 b → T b ∨ T3 b) → ∀ b o, Nw (fun b => (∃ o, H1 b = some o) ∧ ¬ IsBx k vs b ∧ (lone k fr = false → Av P T σ ρ2 b)) H1 T3 b → H' b = some o → Av P T2 σ ρ2 b ∧ H' b = some o := fun hl T2 h2 b o ⟨z1, z2⟩ e => by
      rcases z1 with ⟨_, _, z⟩ | z
      · obtain ⟨y1, y2, y3⟩ := z hl
        exact ⟨⟨y1, y2, fun q => (h2 b q).elim y3 z2⟩, e⟩
      · refine ⟨⟨.inr (h0_none S2T z), fun q => ?_, fun q => (h2 b q).elim (fun q => ?_) z2⟩, e⟩
        · obtain ⟨o', e'⟩ := own_dom S2T q
          rw [z] at e'; cases e'
        · obtain ⟨⟨o', e'⟩, _⟩ := S2T.tn b q
          rw [z] at e'; cases e'
    classical
    -- the heap with the box as it was
    let Hm : Hp := fun b => if IsBx k vs b then H1 b else H' b
    have hm1 : ∀ b, ¬ IsBx k vs b → Hm b = H' b := fun b hb => if_neg hb
    have hm2 : ∀ b, IsBx k vs b → Hm b = H1 b := fun b hb => if_pos hb
    have up : ∀ b o, H1 b = some o → Hm b = some o := fun b o e => by
      by_cases hb : IsBx k vs b
      · rw [hm2 b hb]; exact e
      · rw [hm1 b hb]; exact po.keep b o e hb
    have nb : ∀ b, H1 b = none → ¬ IsBx k vs b := fun b e hb => by
      obtain ⟨o, e'⟩ := own_dom S2T (bxown b hb)
      rw [e] at e'; cases e'
    -- the end for one T2
    have fin : ∀ T2 : Addr → Prop, Tg T H1 T2 → (∀ b, T2 b → T b ∨ T3 b) → (∀ b, T2 b → ∃ o, Hm b = some o) → (∀ b, T2 b → T b ∨ ∀ xs, Hm b ≠ some (.tup xs)) → Sim P T2 σ ρ3 H' ∧ Stp σ ρ H σ ρ3 H' ∧ Kp ρ ρ3 ∧ (∀ b, Own σ ρ3 b → Own σ ρ2 b) := fun T2 tg h2 h3 h4 => by
      obtain ⟨Sm, stm⟩ := S2T.grow tg up h3 h4
      rcases box with ⟨hb, _, e, _⟩ | ⟨i', j, fl, es, a, xs, y1, y2, y3, y4, y5, y6, y7, y8, y9, y10, y11, y12, y13⟩
      · have ee : Hm = H' := funext fun b => hm1 b (hb b)
        rw [ee] at Sm stm
        rw [e]
        exact ⟨Sm, (A.stp.trans st2).trans stm, A.kp.trans kp2, fun _ z => z⟩
      · have ab : IsBx k vs a := ⟨i', y1, y10⟩
        obtain ⟨xs', z1, z2⟩ := po.bx a ab
        have r3 : RepA (Av P T2 σ ρ2) H' xs' fr.bx := by
          by_cases hl : lone k fr = true
          · have : fr.bx.all atom = true := by
              rw [y1] at hl
              unfold lone at hl
              simp only [Option.isNone_some, Bool.false_or, Bool.and_eq_true] at hl
              exact hl.2
            exact RepA.atoms this z2
          · exact z2.mono (nw (by simpa using hl) T2 h2)
        obtain ⟨Sf, stf⟩ := Sm.mut (H' := H') y4 y5 y6 (fun b o hb e => by
          have : ¬ IsBx k vs b := fun ⟨i2, w1, w2⟩ => by
            rw [y1] at w1; cases w1
            rw [y10] at w2; cases w2
            exact hb rfl
          rw [hm1 b this] at e
          exact e) z1 r3
        rw [y13]
        refine ⟨Sf, ((A.stp.trans st2).trans stm).trans stf, (A.kp.trans kp2).trans kp_set, fun b z => ?_⟩
        obtain ⟨i2, f2, d2, w1, w2, w3⟩ := z
        rcases get_set w1 with ⟨rfl, w4⟩ | ⟨_, w4⟩
        · exact ⟨_, fl, _, y4, y5, w3⟩
        · exact ⟨i2, f2, d2, w4, w2, w3⟩
    have erv : rv = frOf fr := by
      rcases box with ⟨_, e, _⟩ | ⟨_, _, _, _, _, _, _, _, _, _, _, _, _, _, _, _, _, e, _⟩
      · exact e
      · exact e
    cases hfr : fr.fr with
    | false =>
      have e1 : rv = .sh fr.d := by rw [erv]; unfold frOf; rw [hfr]; rfl
      obtain ⟨Sf, stf, kpf, owf⟩ := fin T .refl (fun _ h => .inl h) (fun b h => by
        obtain ⟨o, e⟩ := (S2T.tn b h).1
        exact ⟨o, up b o e⟩) (fun _ h => .inl h)
      rw [e1] at q
      refine q v H' T (aft_sh Sf stf kpf .refl ?_)
      by_cases ha : atom fr.d = true
      · exact (po.res hfr).atom ha
      · have hl : lone k fr = false := by unfold lone; rw [(by simpa using ha : atom fr.d = false)]; rfl
        refine (po.res hfr).mono fun b o z e => ?_
        obtain ⟨⟨w1, w2, w3⟩, w4⟩ := nw hl T (fun _ h => .inl h) b o z e
        exact ⟨⟨w1, fun y => w2 (owf b y), w3⟩, w4⟩
    | true =>
      have e1 : rv = .fr fr.d := by rw [erv]; unfold frOf; rw [hfr]; rfl
      obtain ⟨a, o, z1, z3, z4, z5⟩ := po.fr hfr
      have hl : lone k fr = false := by unfold lone; rw [z5.atom]; rfl
      have hna : H1 a = none := po.tn a z3
      obtain ⟨Sf, stf, kpf, owf⟩ := fin (fun b => T b ∨ b = a) ⟨fun b h => .inl h, fun b h => h.elim .inl fun e => by subst e; exact .inr hna⟩ (fun b h => h.elim .inl fun e => by subst e; exact .inr z3) (fun b h => by
        rcases h with h | rfl
        · obtain ⟨o, e⟩ := (S2T.tn b h).1
          exact ⟨o, up b o e⟩
        · exact ⟨_, by rw [hm1 b (nb b hna)]; exact z4⟩) (fun b h => by
        rcases h with h | rfl
        · exact .inl h
        · refine .inr fun xs e => ?_
          rw [hm1 b (nb b hna), z4] at e
          exact z5.ntup xs (Option.some.inj e))
      rw [e1] at q
      refine q v H' _ ⟨Sf, stf, kpf, ⟨a, z1, ?_, rfl⟩, a, _, z1, .inr rfl, z4, h0_none S2T hna, ?_⟩
      · cases e : H a with
        | none => rfl
        | some o =>
          obtain ⟨o', e'⟩ := A.stp.dm a o e
          rw [hna] at e'; cases e'
      · refine z5.mono fun b o z e => ?_
        obtain ⟨⟨w1, w2, w3⟩, w4⟩ := nw hl T (fun _ h => .inl h) b o z e
        exact ⟨⟨w1, fun y => w2 (owf b y), fun y => y.elim w3 fun y => z.2 (by rw [y]; exact z3)⟩, w4⟩
end
section
variable {X : Cx} {k : Option Nat} {F : FS} {fs : Fa} {lv : Nat} {f : Addr} {fd : FuncData} {ps : List Str} {x : Str} {p pos : Pos} {e : Expr} {es : List Expr}
theorem de_call (FO : FnG X.prog X.w X.K X.mg X.base CX0 lv f fd ps (spD k F)) (hr : RoomG lv X.A) (hg : Gl X x) (hm : X.mg x = some (.ref f)) (hk : PySem.W.keepIn X.K (.ref f) = true) (hb : Binds X.K fd ps [])
    (ha : DA X (e :: es) fs) (hdb : (x == ("__debug__" : Str)) = false := by decide) (he : starEach (e :: es) X.env = (false, eval e X.env) :: starEach es X.env := by rfl) (hpl : (backTo pos (starEach es X.env)).any (·.1) = false := by rfl) :
    DE X (.Call (.Name x p) (e :: es) [] pos) (fcall k F fs) := by
  intro P T σ ρ H r ρ' S hf Q q
  simp only [fcall, Option.bind_eq_some_iff] at hf
  obtain ⟨⟨rs, ρ1⟩, h1, ds, h2, fr, h3, h4⟩ := hf
  refine PE.we (pe_callG FO hr hg hm hk hb pass0 paW hdb he hpl) (ha P T σ ρ H rs ρ1 S h1 _ fun vs H1 T1 _ A => ?_)
  rw [List.append_nil]
  exact call_core S A h2 h3 h4 q
end
end DL
set_option Elab.async false
set_option linter.all false
set_option maxRecDepth 100000
set_option maxHeartbeats 2000000
namespace DL
open PySem PySem.Spec PyProof.Rows L2
section
variable {P : Pk} {T T2 : Addr → Prop} {σ σ' : SS} {ρ ρ' : En} {H H' : Hp}
theorem Sim.setSh {i : Nat} {v : V} {d : D} (S : Sim P T σ ρ H) (r : Rep (Av P T σ ρ) H v d) : Sim P T (σ.set i (some v)) (ρ.set i (some (.sh, d))) H ∧ Stp σ ρ H (σ.set i (some v)) (ρ.set i (some (.sh, d))) H := by
  have back : ∀ (j : Nat) (fl : Fl) (e : D), (ρ.set i (some (.sh, d)))[j]? = some (some (fl, e)) → fl ≠ .sh → j ≠ i ∧ ρ[j]? = some (some (fl, e)) ∧ (σ.set i (some v))[j]? = σ[j]? := fun j fl e h1 h2 => by
    rcases get_set h1 with ⟨rfl, q⟩ | ⟨hj, q⟩
    · cases q; exact absurd rfl h2
    · exact ⟨hj, q, List.getElem?_set_ne (Ne.symm hj)⟩
  have ow : ∀ b, Own (σ.set i (some v)) (ρ.set i (some (.sh, d))) b → Own σ ρ b := fun b ⟨j, fl, e, h1, h2, h3⟩ => by
    obtain ⟨_, q1, q2⟩ := back j fl e h1 h2
    exact ⟨j, fl, e, q1, h2, by rw [← q2]; exact h3⟩
  have st : Stp σ ρ H (σ.set i (some v)) (ρ.set i (some (.sh, d))) H := ⟨fun _ _ h _ => h, fun b q => .inl (ow b q), fun _ o h => ⟨o, h⟩⟩
  have av := av_step (P := P) st (Tg.refl (T := T) (H := H))
  refine ⟨⟨by rw [List.length_set, List.length_set]; exact S.len, fun j e h => ?_, fun j fl e h n => ?_, fun j k f1 f2 d1 d2 a h1 h2 h3 h4 h5 h6 => ?_, fun j e a h1 h2 => ?_, fun j e h => ?_, fun b q => ⟨(S.tn b q).1, fun z => (S.tn b q).2 (ow b z)⟩, S.keep, S.dom, S.sB, S.tp⟩, st⟩
  · rcases get_set h with ⟨rfl, q⟩ | ⟨hj, q⟩
    · cases q
      refine ⟨v, ?_, r.mono av⟩
      have hl : j < ρ.length := by
        have := (List.getElem?_eq_some_iff.mp h).1
        rwa [List.length_set] at this
      exact List.getElem?_set_self (by rw [S.len]; exact hl)
    · obtain ⟨w, q1, q2⟩ := S.sh j e q
      exact ⟨w, by rw [List.getElem?_set_ne (Ne.symm hj)]; exact q1, q2.mono av⟩
  · obtain ⟨_, q1, q2⟩ := back j fl e h n
    obtain ⟨a, o, k2, k3, k4⟩ := S.ow j fl e q1 n
    exact ⟨a, o, by rw [q2]; exact k2, k3, k4.mono av⟩
  · obtain ⟨_, q1, q2⟩ := back j f1 d1 h1 h2
    obtain ⟨_, q3, q4⟩ := back k f2 d2 h3 h4
    exact S.dj j k f1 f2 d1 d2 a q1 h2 q3 h4 (by rw [← q2]; exact h5) (by rw [← q4]; exact h6)
  · obtain ⟨_, q1, q2⟩ := back j .ow e h1 (by decide)
    exact S.new j e a q1 (by rw [← q2]; exact h2)
  · obtain ⟨_, q1, q2⟩ := back j .bx e h (by decide)
    rw [q2]
    exact S.bx j e q1
theorem Sim.setOw {i : Nat} {a : Addr} {o : HO} {d : D} (S : Sim P T σ ρ H) (ta : T a) (ha : H a = some o) (h0 : P.H0 a = none) (r : OwnC (Av P T σ ρ) H o d) :
    Sim P (fun b => T b ∧ b ≠ a) (σ.set i (some (.ref a))) (ρ.set i (some (.ow, d))) H ∧ (∀ b o, Av P T σ ρ b → H b = some o → Av P (fun b => T b ∧ b ≠ a) (σ.set i (some (.ref a))) (ρ.set i (some (.ow, d))) b ∧ H b = some o) ∧
      (∀ b, Own (σ.set i (some (.ref a))) (ρ.set i (some (.ow, d))) b → Own σ ρ b ∨ b = a) := by
  have back : ∀ (j : Nat) (fl : Fl) (e : D), (ρ.set i (some (.ow, d)))[j]? = some (some (fl, e)) → (j = i ∧ fl = .ow ∧ e = d ∧ (σ.set i (some (.ref a)))[j]? = some (some (.ref a))) ∨ (j ≠ i ∧ ρ[j]? = some (some (fl, e)) ∧ (σ.set i (some (V.ref a)))[j]? = σ[j]?) := fun j fl e h1 => by
    rcases get_set h1 with ⟨rfl, q⟩ | ⟨hj, q⟩
    · cases q
      refine .inl ⟨rfl, rfl, rfl, List.getElem?_set_self ?_⟩
      have := (List.getElem?_eq_some_iff.mp h1).1
      rw [List.length_set] at this
      rw [S.len]; exact this
    · exact .inr ⟨hj, q, List.getElem?_set_ne (Ne.symm hj)⟩
  have ow : ∀ b, Own (σ.set i (some (.ref a))) (ρ.set i (some (.ow, d))) b → Own σ ρ b ∨ b = a := fun b ⟨j, fl, e, h1, h2, h3⟩ => by
    rcases back j fl e h1 with ⟨_, _, _, q⟩ | ⟨_, q1, q2⟩
    · rw [q] at h3; cases h3; exact .inr rfl
    · exact .inl ⟨j, fl, e, q1, h2, by rw [← q2]; exact h3⟩
  have av : ∀ b o, Av P T σ ρ b → H b = some o → Av P (fun b => T b ∧ b ≠ a) (σ.set i (some (.ref a))) (ρ.set i (some (.ow, d))) b ∧ H b = some o := fun b o ⟨h1, h2, h3⟩ e => by
    refine ⟨⟨h1, fun z => ?_, fun z => h3 z.1⟩, e⟩
    rcases ow b z with z | z
    · exact h2 z
    · subst z; exact h3 ta
  refine ⟨⟨by rw [List.length_set, List.length_set]; exact S.len, fun j e h => ?_, fun j fl e h n => ?_, fun j k f1 f2 d1 d2 b h1 h2 h3 h4 h5 h6 => ?_, fun j e b h1 h2 => ?_, fun j e h => ?_, fun b q => ⟨(S.tn b q.1).1, fun z => ?_⟩, S.keep, S.dom, S.sB, fun b xs e => ⟨(S.tp b xs e).1, fun q => (S.tp b xs e).2 q.1⟩⟩, av, ow⟩
  · rcases back j .sh e h with ⟨_, q, _⟩ | ⟨_, q1, q2⟩
    · cases q
    · obtain ⟨w, k1, k2⟩ := S.sh j e q1
      exact ⟨w, by rw [q2]; exact k1, k2.mono av⟩
  · rcases back j fl e h with ⟨_, _, q, q'⟩ | ⟨_, q1, q2⟩
    · subst q
      exact ⟨a, _, q', ha, r.mono av⟩
    · obtain ⟨b, o', k2, k3, k4⟩ := S.ow j fl e q1 n
      exact ⟨b, o', by rw [q2]; exact k2, k3, k4.mono av⟩
  · have na : ∀ (j : Nat) (fl : Fl) (e : D), ρ[j]? = some (some (fl, e)) → fl ≠ .sh → σ[j]? ≠ some (some (V.ref a)) := fun j fl e q1 q2 q3 => (S.tn a ta).2 ⟨j, fl, e, q1, q2, q3⟩
    rcases back j f1 d1 h1 with ⟨z1, _, _, q⟩ | ⟨_, q1, q2⟩
    · rw [q] at h5; cases h5
      rcases back k f2 d2 h3 with ⟨z3, _⟩ | ⟨_, q3, q4⟩
      · rw [z1, z3]
      · exact absurd (by rw [← q4]; exact h6) (na k f2 d2 q3 h4)
    · rcases back k f2 d2 h3 with ⟨_, _, _, q⟩ | ⟨_, q3, q4⟩
      · rw [q] at h6; cases h6
        exact absurd (by rw [← q2]; exact h5) (na j f1 d1 q1 h2)
      · exact S.dj j k f1 f2 d1 d2 b q1 h2 q3 h4 (by rw [← q2]; exact h5) (by rw [← q4]; exact h6)
  · rcases back j .ow e h1 with ⟨_, _, _, q⟩ | ⟨_, q1, q2⟩
    · rw [q] at h2; cases h2; exact h0
    · exact S.new j e b q1 (by rw [← q2]; exact h2)
  · rcases back j .bx e h with ⟨_, q, _⟩ | ⟨_, q1, q2⟩
    · cases q
    · rw [q2]; exact S.bx j e q1
  · rcases ow b z with z | z
    · exact (S.tn b q.1).2 z
    · exact q.2 z
end
/-- values stored in slots, one after another -/
def storeA : List Nat → List RV → List D → En → Option En
  | [], [], _, ρ => some ρ
  | i :: is, r :: rs, d :: ds, ρ => storeA is rs ds (match r with
    | .fr _ => ρ.set i (some (.ow, d))
    | _ => ρ.set i (some (.sh, d)))
  | _, _, _, _ => none
def sets : List Nat → List V → SS → SS
  | i :: is, v :: vs, σ => sets is vs (σ.set i (some v))
  | _, _, σ => σ
/-- a value that waits to be stored -/
def Wait (P : Pk) (T : Addr → Prop) (σ : SS) (ρ : En) (H : Hp) (v : V) (d : D) : RV → Prop
  | .fr _ => ∃ a o, v = .ref a ∧ T a ∧ H a = some o ∧ P.H0 a = none ∧ OwnC (Av P T σ ρ) H o d
  | _ => Rep (Av P T σ ρ) H v d
inductive WaitA (P : Pk) (T : Addr → Prop) (σ : SS) (ρ : En) (H : Hp) : List V → List D → List RV → Prop
  | nil : WaitA P T σ ρ H [] [] []
  | cons {v : V} {vs : List V} {d : D} {ds : List D} {r : RV} {rs : List RV} : Wait P T σ ρ H v d r → WaitA P T σ ρ H vs ds rs → WaitA P T σ ρ H (v :: vs) (d :: ds) (r :: rs)
section
variable {P : Pk} {T T2 : Addr → Prop} {σ σ' : SS} {ρ ρ' : En} {H H' : Hp}
theorem Wait.to {v : V} {d : D} {r : RV} (w : Wait P T σ ρ H v d r) (av : ∀ b o, Av P T σ ρ b → H b = some o → Av P T2 σ' ρ' b ∧ H b = some o) (ht : ∀ a d', r = .fr d' → v = .ref a → T a → T2 a) : Wait P T2 σ' ρ' H v d r := by
  cases r with
  | sh e => exact Rep.mono w av
  | al i => exact Rep.mono w av
  | fr e =>
    obtain ⟨a, o, e1, ta, ha, h0, hr⟩ := w
    exact ⟨a, o, e1, ht a e rfl e1 ta, ha, h0, hr.mono av⟩
theorem WaitA.to (av : ∀ b o, Av P T σ ρ b → H b = some o → Av P T2 σ' ρ' b ∧ H b = some o) : ∀ {vs : List V} {ds : List D} {rs : List RV}, WaitA P T σ ρ H vs ds rs → (∀ (i : Nat) (a : Addr) (d' : D), rs[i]? = some (RV.fr d') → vs[i]? = some (V.ref a) → T a → T2 a) → WaitA P T2 σ' ρ' H vs ds rs
  | _, _, _, .nil, _ => .nil
  | _, _, _, .cons w ws, ht => .cons (w.to av fun a d' e1 e2 ta => ht 0 a d' (by simp [e1]) (by simp [e2]) ta) (WaitA.to av ws fun i a d' e1 e2 ta => ht (i + 1) a d' (by simpa using e1) (by simpa using e2) ta)
theorem wait_of : ∀ {vs : List V} {rs : List RV} {ds : List D} {ρ1 : En}, ValA P T σ ρ1 H vs rs → Sim P T σ ρ1 H → datA ρ1 rs = some ds → relA ρ1 rs = some ρ' → WaitA P T σ ρ' H vs ds rs
  | [], [], ds, ρ1, _, _, hd, _ => by cases hd; exact .nil
  | [], _ :: _, _, _, h, _, _, _ => h.elim
  | _ :: _, [], _, _, h, _, _, _ => h.elim
  | v :: vs, r :: rs, ds, ρ1, h, S, hd, hr => by
    unfold datA at hd
    cases e1 : dat ρ1 r with
    | none => rw [e1] at hd; cases hd
    | some d =>
      cases e2 : datA ρ1 rs with
      | none => rw [e1, e2] at hd; cases hd
      | some es =>
        rw [e1, e2] at hd
        cases hd
        unfold relA at hr
        cases e3 : rel ρ1 r with
        | none => rw [e3] at hr; cases hr
        | some ρ2 =>
          rw [e3] at hr
          have hr : relA ρ2 rs = some ρ' := hr
          obtain ⟨st1, kp1⟩ := rel_stp (σ := σ) (H := H) e3
          have S1 := S.rel e3
          have h2 : ValA P T σ ρ2 H vs rs := h.2.step S st1 kp1 .refl
          have tail := wait_of h2 S1 (by rw [datA_rel e3]; exact e2) hr
          have w1 : Wait P T σ ρ2 H v d r := by
            cases r with
            | sh e => cases e3; cases e1; exact h.1
            | fr e => cases e3; cases e1; exact h.1
            | al i => exact h.1.toSh (T0 := T) S e3 e1 (fun _ z => z) fun _ _ q => nomatch q
          -- the rest of the letting go
          have st2 : Stp σ ρ2 H σ ρ' H := relA_stp hr
          have av : ∀ b o, Av P T σ ρ2 b → H b = some o → Av P T σ ρ' b ∧ H b = some o := fun b o q e => by
            refine ⟨⟨q.1, fun z => ?_, q.2.2⟩, e⟩
            rcases st2.os b z with z | z
            · exact q.2.1 z
            · rw [e] at z; cases z
          exact .cons (w1.to av fun a d' _ _ z => z) tail
where
  relA_stp : ∀ {rs : List RV} {ρ ρ' : En}, relA ρ rs = some ρ' → Stp σ ρ H σ ρ' H
    | [], ρ, ρ', h => by cases h; exact .refl
    | r :: rs, ρ, ρ', h => by
      unfold relA at h
      cases e : rel ρ r with
      | none => rw [e] at h; cases h
      | some ρ1 =>
        rw [e] at h
        exact (rel_stp (σ := σ) (H := H) e).1.trans (relA_stp h)
/-- T0: what was temporary ahead -/
theorem storeA_spec {T0 : Addr → Prop} : ∀ {is : List Nat} {vs : List V} {ds : List D} {rs : List RV} {σ : SS} {ρ : En} {T : Addr → Prop}, Sim P T σ ρ H → WaitA P T σ ρ H vs ds rs → (∀ b, T0 b → T b) → (∀ (i : Nat) (d : D) (a : Addr), rs[i]? = some (RV.fr d) → vs[i]? = some (V.ref a) → ¬ T0 a) →
    TxA H0 vs rs → storeA is rs ds ρ = some ρ' → Sim P T0 (sets is vs σ) ρ' H ∧ (∀ b, Own (sets is vs σ) ρ' b → Own σ ρ b ∨ ∃ (i : Nat) (d : D), rs[i]? = some (RV.fr d) ∧ vs[i]? = some (V.ref b))
  | [], _, _, _, σ, ρ, T, S, .nil, h0, hf, _, h => by cases h; exact ⟨S.less h0, fun b q => .inl q⟩
  | [], _, _, _, _, _, _, _, .cons _ _, _, _, _, h => by simp [storeA] at h
  | i :: is, _, _, _, _, _, _, _, .nil, _, _, _, h => by simp [storeA] at h
  | i :: is, v :: vs, d :: ds, r :: rs, σ, ρ, T, S, .cons w ws, h0, hf, tx, h => by
    have hf' : ∀ (i : Nat) (d : D) (a : Addr), rs[i]? = some (RV.fr d) → vs[i]? = some (V.ref a) → ¬ T0 a := fun k e a q1 q2 => hf (k + 1) e a (by simpa using q1) (by simpa using q2)
    by_cases hr : ∃ e, r = .fr e
    · obtain ⟨e, rfl⟩ := hr
      obtain ⟨a, o, e1, ta, ha, hn, hre⟩ := w
      subst e1
      have h : storeA is rs ds (ρ.set i (some (.ow, d))) = some ρ' := h
      obtain ⟨S1, av, ow⟩ := S.setOw (i := i) ta ha hn hre
      obtain ⟨S2, o2⟩ := storeA_spec S1 (WaitA.to av ws fun k b d' q1 q2 tb => ⟨tb, fun z => by
        subst z
        obtain ⟨a', ea, _, hno⟩ := tx.1 e rfl
        cases ea
        exact hno k d' q1 q2⟩) (fun b q => ⟨h0 b q, fun z => by subst z; exact hf 0 e b rfl rfl q⟩) hf' tx.2 h
      refine ⟨S2, fun b q => ?_⟩
      rcases o2 b q with q | ⟨k, d', q1, q2⟩
      · rcases ow b q with q | rfl
        · exact .inl q
        · exact .inr ⟨0, e, rfl, rfl⟩
      · exact .inr ⟨k + 1, d', by simpa using q1, by simpa using q2⟩
    · have w' : Rep (Av P T σ ρ) H v d := by
        cases r with
        | sh e => exact w
        | al k => exact w
        | fr e => exact absurd ⟨e, rfl⟩ hr
      have h : storeA is rs ds (ρ.set i (some (.sh, d))) = some ρ' := by
        cases r with
        | sh e => exact h
        | al k => exact h
        | fr e => exact absurd ⟨e, rfl⟩ hr
      obtain ⟨S1, st1⟩ := S.setSh (i := i) w'
      obtain ⟨S2, o2⟩ := storeA_spec S1 (WaitA.to (av_step st1 .refl) ws fun k b d' q1 q2 tb => tb) h0 hf' tx.2 h
      refine ⟨S2, fun b q => ?_⟩
      rcases o2 b q with q | ⟨k, d', q1, q2⟩
      · rcases st1.os b q with q | q
        · exact .inl q
        · obtain ⟨o, e⟩ := own_dom S1 ‹_›
          rw [q] at e; cases e
      · exact .inr ⟨k + 1, d', by simpa using q1, by simpa using q2⟩
/-- behind several values: they are stored -/
theorem store_fin {is : List Nat} {rs : List RV} {ρ1 ρ2 ρ3 : En} {vs : List V} {ds : List D} {H1 : Hp} {T1 : Addr → Prop} (S : Sim P T σ ρ H) (A : AftA P T σ ρ H rs ρ1 vs H1 T1) (hd : datA ρ1 rs = some ds) (hr : relA ρ1 rs = some ρ2) (hs : storeA is rs ds ρ2 = some ρ3) :
    Sim P T (sets is vs σ) ρ3 H1 ∧ Stp σ ρ H (sets is vs σ) ρ3 H1 := by
  have tx := tx_not A S
  obtain ⟨S2, st2, kp2, _⟩ := relA_spec A.sim A.val A.tg.1 tx hd hr
  obtain ⟨S3, o3⟩ := storeA_spec S2 (wait_of A.val A.sim hd hr) A.tg.1 tx A.tx hs
  have st := A.stp.trans st2
  refine ⟨S3, st.fr, fun b q => ?_, st.dm⟩
  rcases o3 b q with q | ⟨i, d, q1, q2⟩
  · exact st.os b q
  · exact .inr (TxA.get A.tx q1 q2)
end
end DL
set_option Elab.async false
set_option linter.all false
set_option maxRecDepth 100000
set_option maxHeartbeats 2000000
namespace DL
open PySem PySem.Spec PyProof.Rows L2
inductive Out where
  | nx (ρ : En) | rt (r : RV) (ρ : En) | bk (ρ : En) | ct (ρ : En)
abbrev Fst := En → Option Out
def OutOk (P : Pk) (T : Addr → Prop) (σ : SS) (ρ : En) (H : Hp) (Ds : Ends) : Out → Prop
  | .nx ρ' => ∀ σ' H', Sim P T σ' ρ' H' → Stp σ ρ H σ' ρ' H' → Ds.nx σ' H'
  | .bk ρ' => ∀ σ' H', Sim P T σ' ρ' H' → Stp σ ρ H σ' ρ' H' → Ds.bk σ' H'
  | .ct ρ' => ∀ σ' H', Sim P T σ' ρ' H' → Stp σ ρ H σ' ρ' H' → Ds.ct σ' H'
  | .rt r ρ' => ∀ v σ' H' T', Sim P T' σ' ρ' H' → Stp σ ρ H σ' ρ' H' → Tx T H v T' r → Val P T' σ' ρ' H' v r → Ds.rt v H'
def DS (X : Cx) (st : Stmt) (f : Fst) : Prop := ∀ P T σ ρ H o, Sim P T σ ρ H → f ρ = some o → ∀ Ds : Ends, OutOk P T σ ρ H Ds o → WS X st Ds σ H
def DSs (X : Cx) (st : List Stmt) (f : Fst) : Prop := ∀ P T σ ρ H o, Sim P T σ ρ H → f ρ = some o → ∀ Ds : Ends, OutOk P T σ ρ H Ds o → WSs X st Ds σ H
theorem OutOk.back {P T σ σ1 ρ ρ1 H H1 Ds} {o : Out} (st : Stp σ ρ H σ1 ρ1 H1) (h : OutOk P T σ ρ H Ds o) : OutOk P T σ1 ρ1 H1 Ds o := by
  cases o with
  | nx ρ' => exact fun σ' H' S st' => h σ' H' S (st.trans st')
  | bk ρ' => exact fun σ' H' S st' => h σ' H' S (st.trans st')
  | ct ρ' => exact fun σ' H' S st' => h σ' H' S (st.trans st')
  | rt r ρ' => exact fun v σ' H' T' S st' tx V0 => h v σ' H' T' S (st.trans st') (tx_back st.dm tx) V0
def fseq (f g : Fst) : Fst := fun ρ => (f ρ).bind fun o => match o with
  | .nx ρ1 => g ρ1
  | o => some o
def fskip : Fst := fun ρ => some (.nx ρ)
def fdrop (f : Fe) : Fst := fun ρ => (f ρ).map fun x => .nx x.2
def fret (f : Fe) : Fst := fun ρ => (f ρ).map fun x => .rt x.1 x.2
def fifS (c : Ft) (f g : Fst) : Fst := fun ρ => (c ρ).bind fun x => if x.1 then f x.2 else g x.2
def fset (is : List Nat) (fs : Fa) : Fst := fun ρ => (fs ρ).bind fun x => (datA x.2 x.1).bind fun ds => (relA x.2 x.1).bind fun ρ2 => (storeA is x.1 ds ρ2).map .nx
def f1 (f : Fe) : Fa := fun ρ => (f ρ).map fun x => ([x.1], x.2)
/-- code that is never reached -/
def fnever : Fst := fun _ => none
section
variable {X : Cx} {st : Stmt} {rest : List Stmt} {f g : Fst} {c : Ft} {fe : Fe} {fs : Fa} {e : Expr} {pos : Pos}
theorem dss_nil : DSs X [] fskip := fun P T σ ρ H o S hf Ds q => by
  cases hf
  exact PSs.wss pss_nil (q σ H S .refl)
theorem dss_cons (h1 : DS X st f) (h2 : DSs X rest g) : DSs X (st :: rest) (fseq f g) := fun P T σ ρ H o S hf Ds q => by
  simp only [fseq, Option.bind_eq_some_iff] at hf
  obtain ⟨o1, e1, e2⟩ := hf
  refine PSs.wss (pss_cons psW pssW) (h1 P T σ ρ H o1 S e1 _ ?_)
  cases o1 with
  | nx ρ1 => exact fun σ1 H1 S1 st1 => h2 P T σ1 ρ1 H1 o S1 e2 Ds (q.back st1)
  | bk ρ1 => cases e2; exact q
  | ct ρ1 => cases e2; exact q
  | rt r ρ1 => cases e2; exact q
theorem dss_one (h1 : DS X st f) : DSs X [st] f := fun P T σ ρ H o S hf Ds q => PSs.wss (pss_one psW) (h1 P T σ ρ H o S hf Ds q)
theorem dss_never {sts : List Stmt} : DSs X sts fnever := fun P T σ ρ H o S hf Ds q => by cases hf
theorem ds_expr (he : DE X e fe) (hs : swapsWith e none pos.line X.env = pure false := by rfl) : DS X (.Expr e pos) (fdrop fe) := fun P T σ ρ H o S hf Ds q => by
  simp only [fdrop, Option.map_eq_some_iff] at hf
  obtain ⟨⟨r, ρ1⟩, e1, e2⟩ := hf
  cases e2
  exact PS.ws (ps_expr peW hs) (he P T σ ρ H r ρ1 S e1 _ fun v H1 T1 A => q σ H1 (A.sim.less A.tx.tg.1) A.stp)
theorem ds_ret (he : DE X e fe) : DS X (.Return (some e) pos) (fret fe) := fun P T σ ρ H o S hf Ds q => by
  simp only [fret, Option.map_eq_some_iff] at hf
  obtain ⟨⟨r, ρ1⟩, e1, e2⟩ := hf
  cases e2
  exact PS.ws (ps_ret peW) (he P T σ ρ H r ρ1 S e1 _ fun v H1 T1 A => q v σ H1 T1 A.sim A.stp A.tx A.val)
theorem ds_if {t : Expr} {p1 p2 : List Stmt} (hc : DT X t c) (ha : DSs X p1 f) (hb : DSs X p2 g) : DS X (.If t p1 p2 pos) (fifS c f g) := fun P T σ ρ H o S hf Ds q => by
  simp only [fifS, Option.bind_eq_some_iff] at hf
  obtain ⟨⟨b, ρ1⟩, e1, e2⟩ := hf
  refine PS.ws (ps_if ptW pssW pssW) (hc P T σ ρ H b ρ1 S e1 _ fun H1 S1 st1 kp1 => ?_)
  cases b with
  | true => exact ha P T σ ρ1 H1 o S1 e2 Ds (q.back st1)
  | false => exact hb P T σ ρ1 H1 o S1 e2 Ds (q.back st1)
theorem da_one (he : DE X e fe) {P T σ ρ H rs ρ'} (S : Sim P T σ ρ H) (hf : f1 fe ρ = some (rs, ρ')) {Q : V → Hp → Prop} (q : ∀ v H' T', AftA P T σ ρ H rs ρ' [v] H' T' → Q v H') : WE X e σ H Q := by
  simp only [f1, Option.map_eq_some_iff] at hf
  obtain ⟨⟨r, ρ1⟩, e1, e2⟩ := hf
  cases e2
  refine he P T σ ρ H r _ S e1 _ fun v H1 T1 A => q v H1 T1 ⟨A.sim, A.stp, A.kp, A.tx.tg, ⟨fun d e => ?_, trivial⟩, ⟨A.val, trivial⟩⟩
  subst e
  obtain ⟨a, z1, z2, _⟩ := A.tx
  exact ⟨a, z1, z2, fun i d' z => by simp at z⟩
theorem ds_set {i : Nat} {x : Str} {pos' : Pos} (hN : X.N.Nodup) (he : DE X e fe) (hi : X.N[i]? = some x := by rfl) (hx : Loc X.env.scope x := by first | exact Or.inl rfl | exact Or.inr rfl) (hs : swapsWith e (some (.Name x pos')) pos.line X.env = pure false := by rfl) (hf : X.fn x = true ∨ X.env.scope.names.lookup x = some .local := by first | exact .inl rfl | exact .inr rfl | assumption) :
    DS X (.Assign [.Name x pos'] e pos) (fset [i] (f1 fe)) := fun P T σ ρ H o S hf' Ds q => by
  simp only [fset, Option.bind_eq_some_iff, Option.map_eq_some_iff] at hf'
  obtain ⟨⟨rs, ρ1⟩, e1, ds, e2, ρ2, e3, ρ3, e4, e5⟩ := hf'
  cases e5
  refine PS.ws (ps_set hN hi hx peW hs hf) (da_one he S e1 fun v H1 T1 A => ?_)
  obtain ⟨S3, st3⟩ := store_fin S A e2 e3 e4
  exact q (σ.set i (some v)) H1 S3 st3
/-- a, b = e1, e2 with plain local names -/
theorem ds_par {i j : Nat} {x y : Str} {a b : Expr} {px py pt : Pos} {kt k2 pt2} (hc : X.calm = true) (hN : X.N.Nodup) (ha : DA X [a, b] fs) (hi : X.N[i]? = some x := by rfl) (hj : X.N[j]? = some y := by rfl) (hij : i ≠ j := by decide)
    (hx : X.env.scope.names.lookup x = some .local := by rfl) (hy : X.env.scope.names.lookup y = some .local := by rfl)
    (hw : swappedStores [.Tuple [.Name x px, .Name y py] kt pt] (.Tuple [a, b] k2 pt2) X.env = pure (some [x, y]) := by rfl)
    (hs : swapsWithSole [.Tuple [.Name x px, .Name y py] kt pt] (.Tuple [a, b] k2 pt2) pos.line X.env = pure false := by rfl) :
    DS X (.Assign [.Tuple [.Name x px, .Name y py] kt pt] (.Tuple [a, b] k2 pt2) pos) (fset [i, j] fs) := fun P T σ ρ H o S hf' Ds q => by
  simp only [fset, Option.bind_eq_some_iff, Option.map_eq_some_iff] at hf'
  obtain ⟨⟨rs, ρ1⟩, e1, ds, e2, ρ2, e3, ρ3, e4, e5⟩ := hf'
  cases e5
  refine PS.ws (ps_par hc hN hi hj hij hx hy paW hw hs) (ha P T σ ρ H rs ρ1 S e1 _ fun vs H1 T1 hl A => ?_)
  obtain ⟨S3, st3⟩ := store_fin S A e2 e3 e4
  match vs, hl with
  | [v, w], _ => exact ⟨v, w, rfl, q _ H1 S3 st3⟩
end
def WG (X : Cx) (tg : Expr) (v : V) (σ : SS) (H : Hp) (Q : SS → Hp → Prop) : Prop :=
  ∀ (pins : List (Addr × Obj)) (s : Shared) (u : Value), Inv X pins σ H s → RelV v u → wpAny (model X.prog X.w) X.A (assign tg X.env u) (fun _ s' => ∃ σ' H', Inv X pins σ' H' s' ∧ Q σ' H') X.xe s
def WGs (X : Cx) (ts : List Expr) (vs : List V) (σ : SS) (H : Hp) (Q : SS → Hp → Prop) : Prop :=
  ∀ (pins : List (Addr × Obj)) (s : Shared) (us : List Value), Inv X pins σ H s → Vals vs us → wpAny (model X.prog X.w) X.A (assignInOrder ((assignEach ts X.env).map (·.2)) us) (fun _ s' => ∃ σ' H', Inv X pins σ' H' s' ∧ Q σ' H') X.xe s
theorem pgW {X : Cx} {tg : Expr} : PG X tg (WG X tg) := ⟨fun pins s σ H v u Q I r h => h pins s u I r⟩
theorem pgsW {X : Cx} {ts : List Expr} : PGs X ts (WGs X ts) := ⟨fun pins s σ H vs us Q I r h => h pins s us I r⟩
theorem PG.wg {X : Cx} {tg : Expr} {t : TG} {v σ H Q} (h : PG X tg t) (q : t v σ H Q) : WG X tg v σ H Q := fun pins s u I r => h.run pins s σ H v u Q I r q
theorem PGs.wg {X : Cx} {tg : List Expr} {t : TGs} {v σ H Q} (h : PGs X tg t) (q : t v σ H Q) : WGs X tg v σ H Q := fun pins s u I r => h.run pins s σ H v u Q I r q
abbrev Fg := D → En → Option En
abbrev Fgs := List D → En → Option En
/-- only these slots are stored -/
def Ch (is : List Nat) (σ : SS) (ρ : En) (σ' : SS) (ρ' : En) : Prop := σ'.length = σ.length ∧ (∀ j, j ∉ is → σ'[j]? = σ[j]?) ∧ Kp ρ ρ'
/-- is: the slots that are stored -/
def DG (X : Cx) (tg : Expr) (is : List Nat) (b : Fg) : Prop :=
  ∀ P T σ ρ H v d ρ', Sim P T σ ρ H → Rep (Av P T σ ρ) H v d → b d ρ = some ρ' → ∀ Q : SS → Hp → Prop, (∀ σ' H', Sim P T σ' ρ' H' → Stp σ ρ H σ' ρ' H' → Ch is σ ρ σ' ρ' → Q σ' H') → WG X tg v σ H Q
def DGs (X : Cx) (tg : List Expr) (is : List Nat) (b : Fgs) : Prop :=
  ∀ P T σ ρ H vs ds ρ', Sim P T σ ρ H → RepA (Av P T σ ρ) H vs ds → b ds ρ = some ρ' → ∀ Q : SS → Hp → Prop, (∀ σ' H', Sim P T σ' ρ' H' → Stp σ ρ H σ' ρ' H' → Ch is σ ρ σ' ρ' → Q σ' H') → WGs X tg vs σ H Q
def bname (i : Nat) : Fg := fun d ρ => some (ρ.set i (some (.sh, d)))
def bnil : Fgs := fun ds ρ => match ds with
  | [] => some ρ
  | _ => none
def bcons (b : Fg) (bs : Fgs) : Fgs := fun ds ρ => match ds with
  | d :: ds => (b d ρ).bind fun ρ1 => bs ds ρ1
  | [] => none
def btup (n : Nat) (bs : Fgs) : Fg := fun d ρ => match d with
  | .tuple ds => if ds.length = n then bs ds ρ else none
  | .list ds => if ds.length = n then bs ds ρ else none
  | _ => none
/-- xs[i] = v, xs an owned list -/
def bsub1 (j : Nat) (fi : Fe) : Fg := fun d ρ => (fi ρ).bind fun x => (dat x.2 x.1).bind fun di => match di, x.2[j]? with
  | .int k, some (some (fl, .list es)) => if fl = .sh then none else (ixN es.length k).map fun n => x.2.set j (some (fl, .list (es.set n d)))
  | _, _ => none
def bsub (j : Nat) (fi : Fe) : Fg := fun d ρ => match ρ[j]? with
  | some (some (.sh, _)) => none
  | some (some _) => bsub1 j fi d ρ
  | _ => none
theorem bsub_in {j : Nat} {fi : Fe} {d : D} {ρ ρ' : En} (hf : bsub j fi d ρ = some ρ') : (∃ fl d, ρ[j]? = some (some (fl, d)) ∧ fl ≠ Fl.sh) ∧ bsub1 j fi d ρ = some ρ' := by
  unfold bsub at hf
  cases e1 : ρ[j]? with
  | none => rw [e1] at hf; cases hf
  | some x =>
    cases x with
    | none => rw [e1] at hf; cases hf
    | some y =>
      obtain ⟨fl, d⟩ := y
      cases fl with
      | sh => rw [e1] at hf; cases hf
      | ow => rw [e1] at hf; exact ⟨⟨_, _, rfl, by decide⟩, hf⟩
      | bx => rw [e1] at hf; exact ⟨⟨_, _, rfl, by decide⟩, hf⟩
section
variable {X : Cx} {tg e : Expr} {es : List Expr} {is js : List Nat} {b : Fg} {bs : Fgs} {fe : Fe} {pos : Pos}
theorem dg_name {i : Nat} {x : Str} (hN : X.N.Nodup) (hi : X.N[i]? = some x := by rfl) (hx : Loc X.env.scope x := by first | exact Or.inl rfl | exact Or.inr rfl) (hf : X.fn x = true ∨ X.env.scope.names.lookup x = some .local := by first | exact .inl rfl | exact .inr rfl | assumption) : DG X (.Name x pos) [i] (bname i) := by
  intro P T σ ρ H v d ρ' S r hb Q q
  cases hb
  obtain ⟨S1, st1⟩ := S.setSh (i := i) r
  exact PG.wg (pg_name hN hi hx hf) (q _ H S1 st1 ⟨by rw [List.length_set], fun j hj => List.getElem?_set_ne (fun z => hj (by simp [z])), kp_set⟩)
theorem dgs_nil : DGs X [] [] bnil := by
  intro P T σ ρ H vs ds ρ' S r hb Q q
  cases ds with
  | nil => cases hb; cases r; exact PGs.wg pgs_nil ⟨rfl, q σ H S .refl ⟨rfl, fun _ _ => rfl, .refl⟩⟩
  | cons d ds => cases hb
theorem dgs_cons (h1 : DG X e is b) (h2 : DGs X es js bs) (hs : (assignEach (e :: es) X.env).map (·.2) = assign e X.env :: (assignEach es X.env).map (·.2) := by rfl) : DGs X (e :: es) (is ++ js) (bcons b bs) := by
  intro P T σ ρ H vs ds ρ' S r hb Q q
  cases ds with
  | nil => cases hb
  | cons d ds =>
    cases r with
    | cons r1 r2 =>
      have hb : (b d ρ).bind (fun ρ1 => bs ds ρ1) = some ρ' := hb
      simp only [Option.bind_eq_some_iff] at hb
      obtain ⟨ρ1, e1, e2⟩ := hb
      refine PGs.wg (pgs_cons pgW pgsW hs) ⟨_, _, rfl, h1 P T σ ρ H _ d ρ1 S r1 e1 _ fun σ1 H1 S1 st1 k1 => ?_⟩
      exact h2 P T σ1 ρ1 H1 _ ds ρ' S1 (r2.mono (av_step st1 .refl)) e2 _ fun σ2 H2 S2 st2 k2 => q σ2 H2 S2 (st1.trans st2) ⟨k2.1.trans k1.1, fun j hj => by
        rw [k2.2.1 j fun z => hj (List.mem_append_right _ z), k1.2.1 j fun z => hj (List.mem_append_left _ z)], k1.2.2.trans k2.2.2⟩
theorem dg_tup {k n : Nat} (hc : X.calm = true) (h : DGs X es is bs) (hn : (assignEach es X.env).length = n := by rfl) (hst : (assignEach es X.env).findIdx? (·.1) = none := by rfl) : DG X (.Tuple es k pos) is (btup n bs) := by
  intro P T σ ρ H v d ρ' S r hb Q q
  cases r with
  | tup hs hr ha =>
    rename_i a xs ds
    have hb : (if ds.length = n then bs ds ρ else none) = some ρ' := hb
    by_cases hl : ds.length = n
    · rw [if_pos hl] at hb
      exact PG.wg (pg_tup hc pgsW hn hst) ⟨a, xs, rfl, .inl (.inl hr), by rw [ha.length]; exact hl, h P T σ ρ H xs ds ρ' S ha hb Q q⟩
    · rw [if_neg hl] at hb; cases hb
  | lst hs hr ha =>
    rename_i a xs ds
    have hb : (if ds.length = n then bs ds ρ else none) = some ρ' := hb
    by_cases hl : ds.length = n
    · rw [if_pos hl] at hb
      exact PG.wg (pg_unl hc pgsW hn hst) ⟨a, xs, rfl, .inl hr, by rw [ha.length]; exact hl, h P T σ ρ H xs ds ρ' S ha hb Q q⟩
    · rw [if_neg hl] at hb; cases hb
  | non => cases hb
  | bl b => cases hb
  | int i => cases hb
  | dct => cases hb
  | exc => cases hb
  | set => cases hb
  | ins => cases hb
  | opq => cases hb
  | str x => cases hb
theorem dg_sub {j : Nat} {x : Str} {i : Expr} {ppos : Pos} (hi : DE X i fe) (hN : X.N[j]? = some x := by rfl) (hv : Vis X.env.scope x := by first | exact Or.inl rfl | exact Or.inr (Or.inl rfl) | exact Or.inr (Or.inr rfl)) (hd : (x == ("__debug__" : Str)) = false := by decide) (hcd : (x == ("__classdict__" : Str)) = false := by decide)
    (ha : ∀ v, assign (.Subscript (.Name x ppos) i pos) X.env v = (do
      let ov ← holding [v] (eval (.Name x ppos) X.env)
      let iv ← holding [v, ov] (eval i X.env)
      standAt pos
      holding [v, ov, iv] (setItem ov iv v)
      release [v, ov, iv] []) := by intro _; rfl) : DG X (.Subscript (.Name x ppos) i pos) [] (bsub j fe) := by
  intro P T σ ρ H v d ρ' S r hb Q q
  obtain ⟨⟨f0, d0, k1, k2⟩, hb⟩ := bsub_in hb
  obtain ⟨a, o0, q2, q3, q4⟩ := S.ow j f0 d0 k1 k2
  simp only [bsub1, Option.bind_eq_some_iff] at hb
  obtain ⟨⟨ri, ρ1⟩, e1, di, e2, e3⟩ := hb
  cases di with
  | int k =>
    cases e4 : ρ1[j]? with
    | none => simp only [e4] at e3; cases e3
    | some y =>
      cases y with
      | none => simp only [e4] at e3; cases e3
      | some z =>
        obtain ⟨fl, dl⟩ := z
        cases dl with
        | list es =>
          simp only [e4] at e3
          by_cases hfl : fl = .sh
          · rw [if_pos hfl] at e3; cases e3
          · rw [if_neg hfl] at e3
            simp only [Option.map_eq_some_iff] at e3
            obtain ⟨n, e5, e6⟩ := e3
            cases e6
            refine PG.wg (pg_sub (pe_var hN hv hd hcd) peW set_list ha) ⟨_, q2, hi P T σ ρ H ri ρ1 S e1 _ fun w H1 T1 A => ?_⟩
            have S1 := A.sim.less A.tx.tg.1
            obtain ⟨a', xs, z2, z3, z4⟩ := S1.owL j fl _ e4 hfl
            rw [q2] at z2; cases z2
            have ew : w = .int k := by
              have := A.val.top A.sim e2
              cases (show Rep _ _ _ _ from this)
              rfl
            have r1 : Rep (Av P T σ ρ1) H1 v d := r.mono (av_step A.stp .refl)
            have na : ∀ b, Av P T σ ρ1 b → b ≠ a := fun b hb z => hb.2.1 (by rw [z]; exact ⟨j, fl, _, e4, hfl, q2⟩)
            have kp : ∀ b u, b ≠ a → H1 b = some u → (upd H1 a (.lst (xs.set n v))) b = some u := fun b u hb e => by rw [upd_ne hb]; exact e
            obtain ⟨S4, st4⟩ := S1.mut (H' := upd H1 a (.lst (xs.set n v))) (es := es.set n d) e4 hfl q2 kp upd_same ((RepA.set r1 n z4).mono fun b u hb e => ⟨hb, kp b u (na b hb) e⟩)
            exact ⟨a, xs, k, n, rfl, ew, z3, by rw [z4.length]; exact e5, q σ _ S4 (A.stp.trans st4) ⟨rfl, fun _ _ => rfl, A.kp.trans kp_set⟩⟩
        | _ => simp only [e4] at e3; cases e3
  | _ => simp only at e3; cases e3
/-- target = value, the value shared -/
def fasg (b : Fg) (f : Fe) : Fst := fun ρ => (f ρ).bind fun x => (dat x.2 x.1).bind fun d => (rel x.2 x.1).bind fun ρ2 => (b d ρ2).map .nx
theorem tx_not1 {P T σ ρ H r ρ' v H' T'} (A : Aft P T σ ρ H r ρ' v H' T') (S : Sim P T σ ρ H) : ∀ d a, r = .fr d → v = .ref a → ¬ T a := fun d a e1 e2 q => by
  subst e1
  obtain ⟨a', z1, z2, _⟩ := A.tx
  rw [e2] at z1; cases z1
  obtain ⟨⟨o, e⟩, _⟩ := S.tn a q
  rw [z2] at e; cases e
theorem ds_asg (he : DE X e fe) (hg : DG X tg is b) (hs : swapsWithSole [tg] e pos.line X.env = pure false := by rfl) (hw : swappedStores [tg] e X.env = pure none := by rfl)
    (h1 : (assignEach [tg] X.env).map (·.2) = [assign tg X.env] := by rfl) : DS X (.Assign [tg] e pos) (fasg b fe) := fun P T σ ρ H o S hf Ds q => by
  simp only [fasg, Option.bind_eq_some_iff, Option.map_eq_some_iff] at hf
  obtain ⟨⟨r, ρ1⟩, e1, d, e2, ρ2, e3, ρ3, e4, e5⟩ := hf
  cases e5
  refine PS.ws (ps_asg peW pgW hs hw h1) (he P T σ ρ H r ρ1 S e1 _ fun v H1 T1 A => ?_)
  obtain ⟨st2, kp2⟩ := rel_stp (σ := σ) (H := H1) e3
  have S2 := (A.sim.rel e3).less A.tx.tg.1
  exact hg P T σ ρ2 H1 v d ρ3 S2 (A.val.toSh A.sim e3 e2 A.tx.tg.1 (tx_not1 A S)) e4 _ fun σ' H' S' st' _ => q σ' H' S' ((A.stp.trans st2).trans st')
end
end DL
set_option Elab.async false
set_option linter.all false
set_option maxRecDepth 100000
set_option maxHeartbeats 2000000
namespace DL
open PySem PySem.Spec PyProof.Rows L2
def WI (X : Cx) (tg iter : Expr) (σ : SS) (H : Hp) (R : It → Hp → Prop) : Prop :=
  ∀ (pins : List (Addr × Obj)) (s : Shared), Inv X pins σ H s → wpAny (model X.prog X.w) X.A (eval iter X.env) (fun v s1 => wpAny (model X.prog X.w) X.A (pyIter v) (PIE X pins σ tg R) X.xe s1) X.xe s
theorem piW {X : Cx} {tg iter : Expr} : PI X tg iter (WI X tg iter) := ⟨fun pins s σ H R I h => h pins s I⟩
theorem PI.wi {X : Cx} {tg iter : Expr} {t : TI} {σ H R} (h : PI X tg iter t) (q : t σ H R) : WI X tg iter σ H R := fun pins s I => h.run pins s σ H R I q
structure Walk (P : Pk) (T : Addr → Prop) (σ : SS) (ρ : En) (H : Hp) (J : It) (items : List D) : Prop where
  go : ∀ i H', (∀ b o, H b = some o → ¬ Own σ ρ b → H' b = some o) → i < items.length → J.go i H'
  yld : ∀ i H', (∀ b o, H b = some o → ¬ Own σ ρ b → H' b = some o) → i < items.length → ∀ x H2, J.yld i H' x H2 → (∀ b o, H' b = some o → H2 b = some o) ∧ ∃ d, items[i]? = some d ∧ Rep (fun b => (Av P T σ ρ b ∧ ∃ o, H b = some o) ∨ H' b = none) H2 x d
  stop : ∀ H', (∀ b o, H b = some o → ¬ Own σ ρ b → H' b = some o) → J.stop items.length H'
abbrev Fi := En → Option (List D × En)
def DI (X : Cx) (tg iter : Expr) (g : Fi) : Prop :=
  ∀ P T σ ρ H items ρ', Sim P T σ ρ H → g ρ = some (items, ρ') → ∀ R : It → Hp → Prop, (∀ J H' T', Sim P T' σ ρ' H' → Stp σ ρ H σ ρ' H' → Kp ρ ρ' → Tg T H T' → Walk P T' σ ρ' H' J items → R J H') → WI X tg iter σ H R
section
variable {P : Pk} {T T' : Addr → Prop} {σ : SS} {ρ ρ' : En} {H H' : Hp} {v : V} {r : RV}
/-- a list or tuple that is let go of, kept as a temporary -/
theorem Val.held {d : D} (V0 : Val P T σ ρ H v r) (S : Sim P T σ ρ H) (h : rel ρ r = some ρ') (hd : dat ρ r = some d) :
    (∀ ds, d = .list ds → ∃ a xs, v = .ref a ∧ Rd H a (.lst xs) ∧ ¬ Own σ ρ' a ∧ RepA (Av P T σ ρ') H xs ds) ∧ (∀ ds, d = .tuple ds → ∃ a xs, v = .ref a ∧ Rd H a (.tup xs) ∧ ¬ Own σ ρ' a ∧ RepA (Av P T σ ρ') H xs ds) := by
  have st := (rel_stp (σ := σ) (H := H) h).1
  have nn : (¬ ∃ e, r = .fr e) → Rep (Av P T σ ρ') H v d := fun hn => V0.toSh S h hd (fun _ z => z) fun e a q _ => absurd ⟨e, q⟩ hn
  by_cases hf : ∃ e, r = .fr e
  · obtain ⟨e, rfl⟩ := hf
    cases h; cases hd
    obtain ⟨a, o, e1, ta, ha, hn, hr⟩ := V0
    subst e1
    refine ⟨fun ds' q => ?_, fun ds' q => ?_⟩
    · subst q
      cases hr with
      | lst hr => exact ⟨a, _, rfl, .inl ha, (S.tn a ta).2, hr⟩
    · subst q
      cases hr
  · have r1 := nn hf
    refine ⟨fun ds q => ?_, fun ds q => ?_⟩
    · subst q
      cases r1 with
      | lst hs hr ha => exact ⟨_, _, rfl, hr, hs.2.1, ha⟩
    · subst q
      cases r1 with
      | tup hs hr ha => exact ⟨_, _, rfl, .inl hr, hs.2.1, ha⟩
theorem rd_keep {a : Addr} {u : HO} (hr : Rd H a u) (ho : ¬ Own σ ρ a) (k : ∀ b o, H b = some o → ¬ Own σ ρ b → H' b = some o) : Rd H' a u := Rd.up (fun o e => k a o e ho) hr
theorem walk_list {K : PySem.W.Frag} {a : Addr} {xs : List V} {ds : List D} (hr : Rd H a (.lst xs)) (ho : ¬ Own σ ρ a) (ha : RepA (Av P T σ ρ) H xs ds) : Walk P T σ ρ H (Itl K a) ds where
  go := fun i H' k hi => by
    have hi' : i < xs.length := by rw [ha.length]; exact hi
    exact ⟨xs, xs[i], .inl (rd_keep hr ho k), by simp [hi']⟩
  yld := fun i H' k hi x H2 y => by
    obtain ⟨e, y⟩ := y
    subst e
    have hx := y xs (.inl (rd_keep hr ho k))
    obtain ⟨d, e1, r1⟩ := ha.get hx
    exact ⟨fun _ _ z => z, d, e1, r1.mono fun b o z e => ⟨.inl ⟨z, o, e⟩, k b o e z.2.1⟩⟩
  stop := fun H' k => ⟨xs, .inl (rd_keep hr ho k), by rw [ha.length]; exact Nat.le_refl _⟩
theorem walk_tup {K : PySem.W.Frag} {a : Addr} {xs : List V} {ds : List D} (hr : Rd H a (.tup xs)) (ho : ¬ Own σ ρ a) (ha : RepA (Av P T σ ρ) H xs ds) : Walk P T σ ρ H (Itt K a) ds where
  go := fun i H' k hi => by
    have hi' : i < xs.length := by rw [ha.length]; exact hi
    exact ⟨xs, xs[i], .inl (rd_keep hr ho k), by simp [hi']⟩
  yld := fun i H' k hi x H2 y => by
    obtain ⟨e, y⟩ := y
    subst e
    have hx := y xs (.inl (rd_keep hr ho k))
    obtain ⟨d, e1, r1⟩ := ha.get hx
    exact ⟨fun _ _ z => z, d, e1, r1.mono fun b o z e => ⟨.inl ⟨z, o, e⟩, k b o e z.2.1⟩⟩
  stop := fun H' k => ⟨xs, .inl (rd_keep hr ho k), by rw [ha.length]; exact Nat.le_refl _⟩
def rgD (lo c : Int) (n : Nat) : List D := (List.range n).map fun i => .int (lo + (i : Nat) * c)
theorem rgD_len {lo c : Int} {n : Nat} : (rgD lo c n).length = n := by simp [rgD]
theorem rgD_get {lo c : Int} {n i : Nat} (h : i < n) : (rgD lo c n)[i]? = some (.int (lo + (i : Nat) * c)) := by simp [rgD, h]
theorem walk_rng {lo : Int} {n : Nat} : Walk P T σ ρ H (Itr lo n) (rgD lo 1 n) where
  go := fun i H' k hi => by rw [rgD_len] at hi; exact hi
  yld := fun i H' k hi x H2 y => by
    rw [rgD_len] at hi
    obtain ⟨e1, e2⟩ := y
    subst e1 e2
    exact ⟨fun _ _ z => z, _, rgD_get hi, by rw [Int.mul_one]; exact .int _⟩
  stop := fun H' k => by show _ ≤ _; rw [rgD_len]; exact Nat.le_refl _
theorem walk_rngC {lo c : Int} {n : Nat} : Walk P T σ ρ H (Itc lo c n) (rgD lo c n) where
  go := fun i H' k hi => by rw [rgD_len] at hi; exact hi
  yld := fun i H' k hi x H2 y => by
    rw [rgD_len] at hi
    obtain ⟨e1, e2⟩ := y
    subst e1 e2
    exact ⟨fun _ _ z => z, _, rgD_get hi, .int _⟩
  stop := fun H' k => by show _ ≤ _; rw [rgD_len]; exact Nat.le_refl _
/-- two items in a new pair -/
theorem rep_pair {H2 : Hp} {t : Addr} {x y : V} {dx dy : D} (hn : H' t = none) (e : H2 = upd H' t (.tup [x, y])) (k : ∀ b o, H b = some o → ¬ Own σ ρ b → H' b = some o) (rx : Rep (Av P T σ ρ) H x dx) (ry : Rep (Av P T σ ρ) H y dy) :
    (∀ b o, H' b = some o → H2 b = some o) ∧ Rep (fun b => (Av P T σ ρ b ∧ ∃ o, H b = some o) ∨ H' b = none) H2 (.ref t) (.tuple [dx, dy]) := by
  subst e
  have up : ∀ b o, Av P T σ ρ b → H b = some o → ((Av P T σ ρ b ∧ ∃ o, H b = some o) ∨ H' b = none) ∧ upd H' t (.tup [x, y]) b = some o := fun b o z e => ⟨.inl ⟨z, o, e⟩, by
    have q := k b o e z.2.1
    rw [upd_ne (ne_of_none q hn)]; exact q⟩
  exact ⟨fun b o q => by rw [upd_ne (ne_of_none q hn)]; exact q, .tup (.inr hn) upd_same (.cons (rx.mono up) (.cons (ry.mono up) .nil))⟩
def enD (i : Nat) : List D → List D
  | [] => []
  | d :: ds => .tuple [.int i, d] :: enD (i + 1) ds
theorem enD_len : ∀ (ds : List D) (i : Nat), (enD i ds).length = ds.length
  | [], _ => rfl
  | d :: ds, i => by simp [enD, enD_len ds]
theorem enD_get : ∀ (ds : List D) (i j : Nat) (d : D), ds[j]? = some d → (enD i ds)[j]? = some (.tuple [.int ((i + j : Nat) : Int), d])
  | [], i, j, d, h => by simp at h
  | e :: ds, i, 0, d, h => by simp at h; subst h; simp [enD]
  | e :: ds, i, j + 1, d, h => by
    have := enD_get ds (i + 1) j d (by simpa using h)
    rw [show (enD i (e :: ds))[j + 1]? = (enD (i + 1) ds)[j]? by simp [enD], this, show i + 1 + j = i + (j + 1) by omega]
theorem walk_enum {K : PySem.W.Frag} {a : Addr} {xs : List V} {ds : List D} (hr : Rd H a (.lst xs)) (ho : ¬ Own σ ρ a) (ha : RepA (Av P T σ ρ) H xs ds) : Walk P T σ ρ H (Ite K a) (enD 0 ds) where
  go := fun i H' k hi => by
    rw [enD_len] at hi
    have hi' : i < xs.length := by rw [ha.length]; exact hi
    exact ⟨xs, xs[i], .inl (rd_keep hr ho k), by simp [hi']⟩
  yld := fun i H' k hi x H2 y => by
    obtain ⟨t, y0, e1, hn, e2, y⟩ := y
    subst e1
    have hx := y xs (.inl (rd_keep hr ho k))
    obtain ⟨d, e3, r1⟩ := ha.get hx
    obtain ⟨u1, u2⟩ := rep_pair (P := P) (T := T) hn e2 k (.int (i : Nat)) r1
    exact ⟨u1, _, by rw [enD_get ds 0 i d e3, Nat.zero_add], u2⟩
  stop := fun H' k => ⟨xs, .inl (rd_keep hr ho k), by rw [ha.length, enD_len]; exact Nat.le_refl _⟩
def zipD : List D → List D → List D
  | x :: xs, y :: ys => .tuple [x, y] :: zipD xs ys
  | _, _ => []
theorem zipD_len : ∀ (ds es : List D), (zipD ds es).length = min ds.length es.length
  | [], es => by simp [zipD]
  | d :: ds, [] => by simp [zipD]
  | d :: ds, e :: es => by simp [zipD, zipD_len ds es]
theorem zipD_get : ∀ (ds es : List D) (j : Nat) (d e : D), ds[j]? = some d → es[j]? = some e → (zipD ds es)[j]? = some (.tuple [d, e])
  | [], es, j, d, e, h, _ => by simp at h
  | d :: ds, [], j, _, e, _, h => by simp at h
  | d' :: ds, e' :: es, 0, d, e, h, h' => by simp at h h'; subst h h'; simp [zipD]
  | d' :: ds, e' :: es, j + 1, d, e, h, h' => by
    have := zipD_get ds es j d e (by simpa using h) (by simpa using h')
    rw [show (zipD (d' :: ds) (e' :: es))[j + 1]? = (zipD ds es)[j]? by simp [zipD], this]
theorem walk_zipL {K : PySem.W.Frag} {a b : Addr} {xs ys : List V} {ds es : List D} (hr : Rd H a (.lst xs)) (ho : ¬ Own σ ρ a) (ha : RepA (Av P T σ ρ) H xs ds) (hr2 : Rd H b (.lst ys)) (ho2 : ¬ Own σ ρ b) (ha2 : RepA (Av P T σ ρ) H ys es) : Walk P T σ ρ H (Itz K a b) (zipD ds es) where
  go := fun i H' k hi => by
    rw [zipD_len, ← ha.length, ← ha2.length] at hi
    have h1 : i < xs.length := by omega
    have h2 : i < ys.length := by omega
    exact ⟨xs, ys, xs[i], ys[i], .inl (rd_keep hr ho k), .inl (rd_keep hr2 ho2 k), by simp [h1], by simp [h2]⟩
  yld := fun i H' k hi x H2 y => by
    obtain ⟨t, x0, y0, e1, hn, e2, y1, y2⟩ := y
    subst e1
    obtain ⟨d, e3, r1⟩ := ha.get (y1 xs (.inl (rd_keep hr ho k)))
    obtain ⟨e, e4, r2⟩ := ha2.get (y2 ys (.inl (rd_keep hr2 ho2 k)))
    obtain ⟨u1, u2⟩ := rep_pair (P := P) (T := T) hn e2 k r1 r2
    exact ⟨u1, _, zipD_get ds es i d e e3 e4, u2⟩
  stop := fun H' k => ⟨xs, ys, .inl (rd_keep hr ho k), .inl (rd_keep hr2 ho2 k), by
    rw [zipD_len, ← ha.length, ← ha2.length]
    omega⟩
theorem walk_zipT {K : PySem.W.Frag} {a b : Addr} {xs ys : List V} {ds es : List D} (hr : Rd H a (.tup xs)) (ho : ¬ Own σ ρ a) (ha : RepA (Av P T σ ρ) H xs ds) (hr2 : Rd H b (.tup ys)) (ho2 : ¬ Own σ ρ b) (ha2 : RepA (Av P T σ ρ) H ys es) : Walk P T σ ρ H (RZ.ItzT K a b) (zipD ds es) where
  go := fun i H' k hi => by
    rw [zipD_len, ← ha.length, ← ha2.length] at hi
    have h1 : i < xs.length := by omega
    have h2 : i < ys.length := by omega
    exact ⟨xs, ys, xs[i], ys[i], .inl (rd_keep hr ho k), .inl (rd_keep hr2 ho2 k), by simp [h1], by simp [h2]⟩
  yld := fun i H' k hi x H2 y => by
    obtain ⟨t, x0, y0, e1, hn, e2, y1, y2⟩ := y
    subst e1
    obtain ⟨d, e3, r1⟩ := ha.get (y1 xs (.inl (rd_keep hr ho k)))
    obtain ⟨e, e4, r2⟩ := ha2.get (y2 ys (.inl (rd_keep hr2 ho2 k)))
    obtain ⟨u1, u2⟩ := rep_pair (P := P) (T := T) hn e2 k r1 r2
    exact ⟨u1, _, zipD_get ds es i d e e3 e4, u2⟩
  stop := fun H' k => ⟨xs, ys, .inl (rd_keep hr ho k), .inl (rd_keep hr2 ho2 k), by
    rw [zipD_len, ← ha.length, ← ha2.length]
    omega⟩
end
def fiseq (f : Fe) : Fi := fun ρ => (f ρ).bind fun x => (dat x.2 x.1).bind fun d => (rel x.2 x.1).bind fun ρ2 => match d with
  | .list ds => some (ds, ρ2)
  | .tuple ds => some (ds, ρ2)
  | _ => none
def firng1 (fs : Fa) : Fi := fun ρ => (fs ρ).bind fun x => (datA x.2 x.1).bind fun ds => match ds with
  | [.int j] => if -(2 ^ 62) ≤ j ∧ j < 2 ^ 62 then some (rgD 0 1 j.toNat, x.2) else none
  | _ => none
def firng3 (fs : Fa) : Fi := fun ρ => (fs ρ).bind fun x => (datA x.2 x.1).bind fun ds => match ds with
  | [.int i, .int j, .int c] => if c ≠ 0 ∧ c.natAbs < 1073741824 ∧ Builtin.Range.small i j c = true then some (rgD i c (Builtin.Range.rangeSize i j c).toNat, x.2) else none
  | _ => none
def fizip (fs : Fa) : Fi := fun ρ => (fs ρ).bind fun x => (datA x.2 x.1).bind fun ds => (relA x.2 x.1).bind fun ρ2 => match ds with
  | [.list xs, .list ys] => some (zipD xs ys, ρ2)
  | [.tuple xs, .tuple ys] => some (zipD xs ys, ρ2)
  | _ => none
section
variable {X : Cx} {tg e e2 a b c : Expr} {fe : Fe} {fs : Fa} {p pos : Pos}
theorem di_seq (he : DE X e fe) : DI X tg e (fiseq fe) := by
  intro P T σ ρ H items ρ' S hf R q
  simp only [fiseq, Option.bind_eq_some_iff] at hf
  obtain ⟨⟨r, ρ1⟩, e1, d, e2, ρ2, e3, e4⟩ := hf
  cases d with
  | list ds =>
    cases e4
    refine PI.wi (pi_list peW) (he P T σ ρ H r ρ1 S e1 _ fun v H1 T1 A => ?_)
    obtain ⟨st2, kp2⟩ := rel_stp (σ := σ) (H := H1) e3
    obtain ⟨a, xs, ev, hr, ho, ha⟩ := (A.val.held A.sim e3 e2).1 _ rfl
    exact ⟨a, ev, ⟨xs, .inl hr⟩, q _ H1 T1 (A.sim.rel e3) (A.stp.trans st2) (A.kp.trans kp2) A.tx.tg (walk_list hr ho ha)⟩
  | tuple ds =>
    cases e4
    refine PI.wi (pi_tup peW) (he P T σ ρ H r ρ1 S e1 _ fun v H1 T1 A => ?_)
    obtain ⟨st2, kp2⟩ := rel_stp (σ := σ) (H := H1) e3
    obtain ⟨a, xs, ev, hr, ho, ha⟩ := (A.val.held A.sim e3 e2).2 _ rfl
    exact ⟨a, ev, ⟨xs, .inl hr⟩, q _ H1 T1 (A.sim.rel e3) (A.stp.trans st2) (A.kp.trans kp2) A.tx.tg (walk_tup hr ho ha)⟩
  | _ => cases e4
theorem top_int {S : Addr → Prop} {H : Hp} {v : V} {i : Int} (h : Top S H v (.int i)) : v = .int i := by
  cases (show Rep _ _ _ _ from h)
  rfl
theorem di_rng1 (hg : Gl X "range") (hm : X.mg "range" = none) (ha : DA X [a] fs) (hs : starEach [a] X.env = [(false, eval a X.env)] := by rfl) : DI X tg (.Call (.Name "range" p) [a] [] pos) (firng1 fs) := by
  intro P T σ ρ H items ρ' S hf R q
  simp only [firng1, Option.bind_eq_some_iff] at hf
  obtain ⟨⟨rs, ρ1⟩, e1, ds, e2, e3⟩ := hf
  match ds, e2, e3 with
  | [.int j], e2, e3 =>
    have e3 : (if -(2 ^ 62) ≤ j ∧ j < 2 ^ 62 then some (rgD 0 1 j.toNat, ρ1) else none) = some (items, ρ') := e3
    by_cases hj : -(2 ^ 62) ≤ j ∧ j < 2 ^ 62
    · rw [if_pos hj] at e3; cases e3
      refine PI.wi (pi_range1 hg hm paW hs) (ha P T σ ρ H rs _ S e1 _ fun vs H1 T1 _ A => ?_)
      have t := A.val.top A.sim e2
      cases t with
      | cons t1 t2 =>
        cases t2
        cases top_int t1
        exact ⟨j, rfl, hj.1, hj.2, q _ H1 T1 A.sim A.stp A.kp A.tg walk_rng⟩
    · rw [if_neg hj] at e3; cases e3
theorem di_rng3 (hg : Gl X "range") (hm : X.mg "range" = none) (ha : DA X [a, b, c] fs) (hs : starEach [a, b, c] X.env = (false, eval a X.env) :: starEach [b, c] X.env := by rfl) (hpl : (backTo pos (starEach [b, c] X.env)).any (·.1) = false := by rfl) : DI X tg (.Call (.Name "range" p) [a, b, c] [] pos) (firng3 fs) := by
  intro P T σ ρ H items ρ' S hf R q
  simp only [firng3, Option.bind_eq_some_iff] at hf
  obtain ⟨⟨rs, ρ1⟩, e1, ds, e2, e3⟩ := hf
  match ds, e2, e3 with
  | [.int i, .int j, .int c], e2, e3 =>
    have e3 : (if c ≠ 0 ∧ c.natAbs < 1073741824 ∧ Builtin.Range.small i j c = true then some (rgD i c (Builtin.Range.rangeSize i j c).toNat, ρ1) else none) = some (items, ρ') := e3
    by_cases hj : c ≠ 0 ∧ c.natAbs < 1073741824 ∧ Builtin.Range.small i j c = true
    · rw [if_pos hj] at e3; cases e3
      refine PI.wi (pi_range3 hg hm paW hs hpl) (ha P T σ ρ H rs _ S e1 _ fun vs H1 T1 _ A => ?_)
      have t := A.val.top A.sim e2
      cases t with
      | cons t1 t2 =>
        cases t2 with
        | cons t2 t3 =>
          cases t3 with
          | cons t3 t4 =>
            cases t4
            cases top_int t1
            cases top_int t2
            cases top_int t3
            refine ⟨i, j, c, _, rfl, ⟨hj.1, hj.2.1, hj.2.2, ?_⟩, q _ H1 T1 A.sim A.stp A.kp A.tg walk_rngC⟩
            have h0 : 0 ≤ Builtin.Range.rangeSize i j c := by
              unfold Builtin.Range.rangeSize
              split
              · split
                · have := Int.ediv_nonneg (a := j - i - 1) (b := c) (by omega) (by omega)
                  omega
                · exact Int.le_refl 0
              · split
                · have := Int.ediv_nonneg (a := i - j - 1) (b := -c) (by omega) (by omega)
                  omega
                · exact Int.le_refl 0
            omega
    · rw [if_neg hj] at e3; cases e3
theorem heldA2 {P : Pk} {T : Addr → Prop} {σ : SS} {ρ ρ' : En} {H : Hp} {vs : List V} {rs : List RV} {d1 d2 : D} (V0 : ValA P T σ ρ H vs rs) (S : Sim P T σ ρ H) (hd : datA ρ rs = some [d1, d2]) (hr : relA ρ rs = some ρ') : ∃ v1 v2 r1 r2 ρ1, vs = [v1, v2] ∧ rs = [r1, r2] ∧ rel ρ r1 = some ρ1 ∧ rel ρ1 r2 = some ρ' ∧ dat ρ r1 = some d1 ∧ dat ρ1 r2 = some d2 ∧ Val P T σ ρ H v1 r1 ∧ Val P T σ ρ1 H v2 r2 ∧ Sim P T σ ρ1 H ∧ Sim P T σ ρ' H ∧ Stp σ ρ H σ ρ' H ∧ Stp σ ρ1 H σ ρ' H ∧ Kp ρ ρ' := by
  match rs, vs, hd, hr, V0 with
  | [], [], hd, _, _ => cases hd
  | [r], _, hd, _, _ =>
    have := datA_len hd
    simp at this
  | r1 :: r2 :: r3 :: rs, _, hd, _, _ =>
    have := datA_len hd
    simp at this
  | [r1, r2], [v1, v2], hd, hr, ⟨h1, h2, _⟩ =>
    obtain ⟨d, k1, k2⟩ := datA_get hd (i := 0) rfl
    cases k2
    obtain ⟨d, k3, k4⟩ := datA_get hd (i := 1) rfl
    cases k4
    unfold relA at hr
    cases e1 : rel ρ r1 with
    | none => rw [e1] at hr; cases hr
    | some ρ1 =>
      rw [e1] at hr
      have hr : relA ρ1 [r2] = some ρ' := hr
      unfold relA at hr
      cases e2 : rel ρ1 r2 with
      | none => rw [e2] at hr; cases hr
      | some ρ2 =>
        rw [e2] at hr
        cases hr
        obtain ⟨st1, kp1⟩ := rel_stp (σ := σ) (H := H) e1
        obtain ⟨st2, kp2⟩ := rel_stp (σ := σ) (H := H) e2
        exact ⟨v1, v2, r1, r2, ρ1, rfl, rfl, e1, e2, k1, by rw [rel_dat e1]; exact k3, h1, h2.step S st1 kp1 .refl, S.rel e1, (S.rel e1).rel e2, st1.trans st2, st2, kp1.trans kp2⟩
theorem di_zip {tpos : Pos} {elts : List Expr} {kk : Nat} (hg : Gl X "zip") (hm : X.mg "zip" = none) (ha : DA X [e, e2] fs) (hs : starEach [e, e2] X.env = (false, eval e X.env) :: starEach [e2] X.env := by rfl) (hpl : (backTo pos (starEach [e2] X.env)).any (·.1) = false := by rfl) :
    DI X (.Tuple elts kk tpos) (.Call (.Name "zip" p) [e, e2] [] pos) (fizip fs) := by
  intro P T σ ρ H items ρ' S hf R q
  simp only [fizip, Option.bind_eq_some_iff] at hf
  obtain ⟨⟨rs, ρ1⟩, e1, ds, e2, ρ2, e3, e4⟩ := hf
  have upA : ∀ {ρ1 ρ2 : En} {H1 : Hp} {T1 : Addr → Prop} {xs : List V} {es : List D}, Stp σ ρ1 H1 σ ρ2 H1 → RepA (Av P T1 σ ρ1) H1 xs es → RepA (Av P T1 σ ρ2) H1 xs es := fun st h => h.mono (av_step st .refl)
  have upO : ∀ {ρ1 ρ2 : En} {H1 : Hp} {a : Addr} {u : HO}, Stp σ ρ1 H1 σ ρ2 H1 → Rd H1 a u → ¬ Own σ ρ1 a → ¬ Own σ ρ2 a := fun st hr ho z => by
    rcases st.os _ z with z | z
    · exact ho z
    · obtain ⟨o, e⟩ := Rd.dom hr
      rw [z] at e; cases e
  match ds, e2, e4 with
  | [.list xs, .list ys], e2, e4 =>
    cases e4
    refine PI.wi (RZ.pi_zipA hg hm paW hs hpl) (ha P T σ ρ H rs ρ1 S e1 _ fun vs H1 T1 _ A => ?_)
    obtain ⟨v1, v2, r1, r2, ρ3, ev, er, k1, k2, k3, k4, k5, k6, S3, S4, st, st', kp⟩ := heldA2 A.val A.sim e2 e3
    obtain ⟨a, us, y1, y2, y3, y4⟩ := (k5.held A.sim k1 k3).1 _ rfl
    obtain ⟨b, ws, z1, z2, z3, z4⟩ := (k6.held S3 k2 k4).1 _ rfl
    exact ⟨a, b, us, ws, by rw [ev, y1, z1], .inl ⟨.inl y2, .inl z2, q _ H1 T1 S4 (A.stp.trans st) (A.kp.trans kp) A.tg (walk_zipL y2 (upO st' y2 y3) (upA st' y4) z2 z3 z4)⟩⟩
  | [.tuple xs, .tuple ys], e2, e4 =>
    cases e4
    refine PI.wi (RZ.pi_zipA hg hm paW hs hpl) (ha P T σ ρ H rs ρ1 S e1 _ fun vs H1 T1 _ A => ?_)
    obtain ⟨v1, v2, r1, r2, ρ3, ev, er, k1, k2, k3, k4, k5, k6, S3, S4, st, st', kp⟩ := heldA2 A.val A.sim e2 e3
    obtain ⟨a, us, y1, y2, y3, y4⟩ := (k5.held A.sim k1 k3).2 _ rfl
    obtain ⟨b, ws, z1, z2, z3, z4⟩ := (k6.held S3 k2 k4).2 _ rfl
    exact ⟨a, b, us, ws, by rw [ev, y1, z1], .inr ⟨.inl y2, .inl z2, q _ H1 T1 S4 (A.stp.trans st) (A.kp.trans kp) A.tg (walk_zipT y2 (upO st' y2 y3) (upA st' y4) z2 z3 z4)⟩⟩
end
end DL
set_option Elab.async false
set_option linter.all false
set_option maxRecDepth 100000
set_option maxHeartbeats 2000000
namespace DL
open PySem PySem.Spec PyProof.Rows L2
def forD (b : Fg) (body : Fst) : List D → Fst
  | [], ρ => some (.nx ρ)
  | d :: ds, ρ => (b d ρ).bind fun ρ1 => (body ρ1).bind fun o => match o with
    | .nx ρ2 => forD b body ds ρ2
    | .ct ρ2 => forD b body ds ρ2
    | .bk ρ2 => some (.nx ρ2)
    | .rt r ρ2 => some (.rt r ρ2)
def ffor (g : Fi) (b : Fg) (body : Fst) : Fst := fun ρ => (g ρ).bind fun x => forD b body x.1 x.2
def whileD (c : Ft) (body : Fst) : Nat → Fst
  | 0, _ => none
  | n + 1, ρ => (c ρ).bind fun x => if x.1 then (body x.2).bind fun o => match o with
      | .nx ρ2 => whileD c body n ρ2
      | .ct ρ2 => whileD c body n ρ2
      | .bk ρ2 => some (.nx ρ2)
      | .rt r ρ2 => some (.rt r ρ2)
    else some (.nx x.2)
section
variable {P : Pk} {T T2 : Addr → Prop} {σ : SS} {ρ ρ' : En} {H H' : Hp} {v : V} {r : RV}
theorem Val.less {T' : Addr → Prop} (V0 : Val P T' σ ρ H v r) (h : ∀ b, T2 b → T' b) (hf : ∀ d a, r = .fr d → v = .ref a → T2 a) : Val P T2 σ ρ H v r := by
  have av : ∀ a o, Av P T' σ ρ a → H a = some o → Av P T2 σ ρ a ∧ H a = some o := fun a o ⟨h1, h2, h3⟩ e => ⟨⟨h1, h2, fun z => h3 (h a z)⟩, e⟩
  cases r with
  | sh d => exact Rep.mono V0 av
  | al i => exact V0
  | fr d =>
    obtain ⟨a, o, e1, ta, ha, hn, hr⟩ := V0
    exact ⟨a, o, e1, hf d a rfl e1, ha, hn, hr.mono av⟩
/-- an end inside a loop that holds more temporaries -/
theorem OutOk.more {T' : Addr → Prop} {Ds : Ends} {o : Out} (tg : Tg T H T') (h : OutOk P T σ ρ H Ds o) : OutOk P T' σ ρ H Ds o := by
  cases o with
  | nx ρ' => exact fun σ' H' S st => h σ' H' (S.less tg.1) st
  | bk ρ' => exact fun σ' H' S st => h σ' H' (S.less tg.1) st
  | ct ρ' => exact fun σ' H' S st => h σ' H' (S.less tg.1) st
  | rt r ρ' =>
    intro v σ' H' T2 S st tx V0
    cases r with
    | sh d => cases tx; exact h v σ' H' T (S.less tg.1) st rfl (Val.less V0 tg.1 fun _ _ q => nomatch q)
    | al i => cases tx; exact h v σ' H' T (S.less tg.1) st rfl (Val.less V0 tg.1 fun _ _ q => nomatch q)
    | fr d =>
      obtain ⟨a, e1, hn, rfl⟩ := tx
      have hl : ∀ b, (T b ∨ b = a) → (T' b ∨ b = a) := fun b z => z.elim (fun y => .inl (tg.1 b y)) .inr
      refine h v σ' H' (fun b => T b ∨ b = a) (S.less hl) st ⟨a, e1, hn, rfl⟩ (Val.less V0 hl fun d' a' q1 q2 => ?_)
      rw [e1] at q2; cases q2; exact .inr rfl
end
section
variable {X : Cx} {tg iter : Expr} {is : List Nat} {g : Fi} {b : Fg} {body : List Stmt} {fb : Fst} {c : Expr} {fc : Ft} {pos : Pos}
theorem ds_for (hp : PassesOwn (model X.prog X.w) X.A X.env X.xe) (hc : X.calm = true) (hi : DI X tg iter g) (hg : DG X tg is b) (hb : DSs X body fb) (hs : ∀ x, foldedSetIterable iter X.env x = pure x := by intro _; rfl) :
    DS X (.For tg iter body [] pos) (ffor g b fb) := fun P T σ ρ H o S hf Ds q => by
  simp only [ffor, Option.bind_eq_some_iff] at hf
  obtain ⟨⟨items, ρ1⟩, e1, e2⟩ := hf
  refine PS.ws (ps_for hp hc piW pgW pssW hs) (hi P T σ ρ H items ρ1 S e1 _ fun J H1 T1 S1 st1 kp1 tg1 W => ?_)
  have q1 : OutOk P T1 σ ρ1 H1 Ds o := OutOk.back st1 (OutOk.more tg1 q)
  refine ⟨fun i m σ' H' => m = items.length - i ∧ i ≤ items.length ∧ ∃ ρi, Sim P T1 σ' ρi H' ∧ Stp σ ρ1 H1 σ' ρi H' ∧ forD b fb (items.drop i) ρi = some o, ⟨_, rfl, Nat.zero_le _, ρ1, S1, .refl, e2⟩, ?_⟩
  rintro i m σ2 H2 ⟨rfl, hi, ρi, S2, st2, e3⟩
  by_cases hlt : i < items.length
  · right
    have hd : items.drop i = items[i] :: items.drop (i + 1) := List.drop_eq_getElem_cons hlt
    rw [hd] at e3
    simp only [forD, Option.bind_eq_some_iff] at e3
    obtain ⟨ρ2, e4, o2, e5, e6⟩ := e3
    refine ⟨W.go i H2 st2.fr hlt, fun σ' H' => i + 1 ≤ items.length ∧ ∃ ρi, Sim P T1 σ' ρi H' ∧ Stp σ ρ1 H1 σ' ρi H' ∧ forD b fb (items.drop (i + 1)) ρi = some o, fun σ' H' h => ⟨_, by omega, rfl, h.1, h.2⟩, fun x H3 hy => ?_⟩
    obtain ⟨up, d, ed, rd⟩ := W.yld i H2 st2.fr hlt x H3 hy
    have ed' : items[i] = d := by
      rw [List.getElem?_eq_getElem hlt] at ed; exact Option.some.inj ed
    rw [ed'] at e4
    obtain ⟨S3, st3⟩ := S2.grow .refl up (fun b hb => let ⟨o, e⟩ := (S2.tn b hb).1; ⟨o, up b o e⟩)
    have rd' : Rep (Av P T1 σ2 ρi) H3 x d := rd.mono fun a u h e => by
      refine ⟨?_, e⟩
      rcases h with ⟨⟨h1, h2, h3⟩, o', e'⟩ | h
      · refine ⟨h1, fun z => ?_, h3⟩
        rcases st2.os a z with z | z
        · exact h2 z
        · rw [e'] at z; cases z
      · refine ⟨.inr (h0_none S2 h), fun z => ?_, fun z => ?_⟩
        · obtain ⟨o', e'⟩ := own_dom S2 z
          rw [h] at e'; cases e'
        · obtain ⟨⟨o', e'⟩, _⟩ := S2.tn a z
          rw [h] at e'; cases e'
    refine hg P T1 σ2 ρi H3 x d ρ2 S3 rd' e4 _ fun σ4 H4 S4 st4 _ => ?_
    have st5 := (st2.trans st3).trans st4
    refine hb P T1 σ4 ρ2 H4 o2 S4 e5 _ ?_
    cases o2 with
    | nx ρ3 => exact fun σ' H' S' st' => ⟨hlt, ρ3, S', st5.trans st', e6⟩
    | ct ρ3 => exact fun σ' H' S' st' => ⟨hlt, ρ3, S', st5.trans st', e6⟩
    | bk ρ3 => cases e6; exact fun σ' H' S' st' => q1 σ' H' S' (st5.trans st')
    | rt r ρ3 => cases e6; exact q1.back st5
  · left
    have e : i = items.length := by omega
    subst e
    rw [List.drop_length] at e3
    cases e3
    exact ⟨W.stop H2 st2.fr, q1 σ2 H2 S2 st2⟩
theorem ds_while (n : Nat) (hp : PassesOwn (model X.prog X.w) X.A X.env X.xe) (hc : DT X c fc) (hb : DSs X body fb) : DS X (.While c body [] pos) (whileD fc fb n) := fun P T σ ρ H o S hf Ds q => by
  refine PS.ws (ps_while hp ptW pssW) ⟨fun m σ' H' => ∃ ρi, Sim P T σ' ρi H' ∧ Stp σ ρ H σ' ρi H' ∧ whileD fc fb m ρi = some o, ⟨n, ρ, S, .refl, hf⟩, ?_⟩
  rintro m σ2 H2 ⟨ρi, S2, st2, e3⟩
  cases m with
  | zero => cases e3
  | succ m =>
    simp only [whileD, Option.bind_eq_some_iff] at e3
    obtain ⟨⟨k, ρ1⟩, e1, e2⟩ := e3
    refine hc P T σ2 ρi H2 k ρ1 S2 e1 _ fun H3 S3 st3 kp3 => ?_
    cases k with
    | false =>
      rw [if_neg Bool.false_ne_true]
      simp only [Bool.false_eq_true, if_false] at e2
      cases e2
      exact q σ2 H3 S3 (st2.trans st3)
    | true =>
      rw [if_pos rfl]
      simp only [if_true, Option.bind_eq_some_iff] at e2
      obtain ⟨o2, e4, e5⟩ := e2
      refine ⟨fun σ' H' => ∃ ρi, Sim P T σ' ρi H' ∧ Stp σ ρ H σ' ρi H' ∧ whileD fc fb m ρi = some o, fun σ' H' h => ⟨m, Nat.lt_succ_self m, h⟩, ?_⟩
      have st5 := st2.trans st3
      refine hb P T σ2 ρ1 H3 o2 S3 e4 _ ?_
      cases o2 with
      | nx ρ3 => exact fun σ' H' S' st' => ⟨ρ3, S', st5.trans st', e5⟩
      | ct ρ3 => exact fun σ' H' S' st' => ⟨ρ3, S', st5.trans st', e5⟩
      | bk ρ3 => cases e5; exact fun σ' H' S' st' => q σ' H' S' (st5.trans st')
      | rt r ρ3 => cases e5; exact q.back st5
end
def wipeE (ρ : En) : List Nat → En
  | [] => ρ
  | i :: is => (wipeE ρ is).set i none
def slotAt (ρ : En) (i : Nat) : Option (Fl × D) := match ρ[i]? with
  | some x => x
  | none => none
/-- the block's own names as they were ahead -/
def backE (ρ ρ2 : En) : List Nat → En
  | [] => ρ2
  | i :: is => (backE ρ ρ2 is).set i (slotAt ρ i)
def noOwn (ρ : En) (is : List Nat) : Bool := is.all fun i => match ρ[i]? with
  | some (some (.sh, _)) => true
  | some none => true
  | _ => false
def lcD (own : List Nat) (b : Fg) (t : Ft) (elt : Fe) : List D → En → List D → Option (List D × En)
  | [], ρ, acc => some (acc, ρ)
  | d :: ds, ρ, acc => (b d (wipeE ρ own)).bind fun ρ1 => (t ρ1).bind fun x => if x.1 then (elt x.2).bind fun y => (dat y.2 y.1).bind fun e => (rel y.2 y.1).bind fun ρ2 => if acc.length < 16777216 then lcD own b t elt ds (backE ρ ρ2 own) (acc ++ [e]) else none
    else lcD own b t elt ds (backE ρ x.2 own) acc
def flc (own : List Nat) (g : Fi) (b : Fg) (t : Ft) (elt : Fe) : Fe := fun ρ => (g ρ).bind fun x => if noOwn x.2 own then (lcD own b t elt x.1 x.2 []).map fun y => (.fr (.list y.1), y.2) else none
def ftrue : Ft := fun ρ => some (true, ρ)
theorem wipeE_len (ρ : En) : ∀ is : List Nat, (wipeE ρ is).length = ρ.length
  | [] => rfl
  | i :: is => by unfold wipeE; rw [List.length_set, wipeE_len ρ is]
theorem backE_len (ρ ρ2 : En) : ∀ is : List Nat, (backE ρ ρ2 is).length = ρ2.length
  | [] => rfl
  | i :: is => by unfold backE; rw [List.length_set, backE_len ρ ρ2 is]
theorem wipeE_get {ρ : En} {x : Fl × D} {j : Nat} : ∀ {is : List Nat}, (wipeE ρ is)[j]? = some (some x) → j ∉ is ∧ ρ[j]? = some (some x)
  | [], h => ⟨by simp, h⟩
  | i :: is, h => by
    unfold wipeE at h
    rcases get_set h with ⟨_, e⟩ | ⟨hj, e⟩
    · cases e
    · obtain ⟨h1, h2⟩ := wipeE_get e
      exact ⟨by simp only [List.mem_cons, not_or]; exact ⟨hj, h1⟩, h2⟩
theorem wipeE_out {ρ : En} {j : Nat} : ∀ {is : List Nat}, j ∉ is → (wipeE ρ is)[j]? = ρ[j]?
  | [], _ => rfl
  | i :: is, h => by
    simp only [List.mem_cons, not_or] at h
    unfold wipeE
    rw [List.getElem?_set_ne (Ne.symm h.1), wipeE_out h.2]
theorem backE_out {ρ ρ2 : En} {j : Nat} : ∀ {is : List Nat}, j ∉ is → (backE ρ ρ2 is)[j]? = ρ2[j]?
  | [], _ => rfl
  | i :: is, h => by
    simp only [List.mem_cons, not_or] at h
    unfold backE
    rw [List.getElem?_set_ne (Ne.symm h.1), backE_out h.2]
theorem backE_in {ρ ρ2 : En} {j : Nat} {x : Option (Fl × D)} : ∀ {is : List Nat}, j ∈ is → (backE ρ ρ2 is)[j]? = some x → x = slotAt ρ j
  | [], h, _ => by simp at h
  | i :: is, h, e => by
    unfold backE at e
    rcases get_set e with ⟨rfl, e⟩ | ⟨hj, e⟩
    · exact e
    · rcases List.mem_cons.mp h with h | h
      · exact absurd h hj
      · exact backE_in h e
theorem wipe_out' {σ : SS} {j : Nat} : ∀ {is : List Nat}, j ∉ is → (wipe σ is)[j]? = σ[j]?
  | [], _ => rfl
  | i :: is, h => by
    simp only [List.mem_cons, not_or] at h
    unfold wipe
    rw [List.getElem?_set_ne (Ne.symm h.1), wipe_out' h.2]
theorem wipe_in {σ : SS} {j : Nat} : ∀ {is : List Nat}, j ∈ is → j < σ.length → (wipe σ is)[j]? = some none
  | [], h, _ => by simp at h
  | i :: is, h, hl => by
    unfold wipe
    by_cases hj : i = j
    · subst hj
      exact List.getElem?_set_self (by rw [wipe_length]; exact hl)
    · rw [List.getElem?_set_ne hj]
      rcases List.mem_cons.mp h with h | h
      · exact absurd h.symm hj
      · exact wipe_in h hl
theorem wipe_eq {σ σ2 : SS} {is : List Nat} (hl : σ2.length = σ.length) (h : ∀ j, j ∉ is → σ2[j]? = σ[j]?) : wipe σ2 is = wipe σ is := by
  apply List.ext_getElem?
  intro j
  by_cases hj : j ∈ is
  · by_cases hl' : j < σ.length
    · rw [wipe_in hj hl', wipe_in hj (by rw [hl]; exact hl')]
    · rw [List.getElem?_eq_none (by rw [wipe_length]; omega), List.getElem?_eq_none (by rw [wipe_length]; omega)]
  · rw [wipe_out' hj, wipe_out' hj, h j hj]
theorem noOwn_spec {ρ : En} {is : List Nat} (h : noOwn ρ is = true) {i : Nat} (hi : i ∈ is) : ∃ x, ρ[i]? = some x ∧ ∀ fl d, x = some (fl, d) → fl = .sh := by
  have := List.all_eq_true.mp h i hi
  cases e : ρ[i]? with
  | none => rw [e] at this; cases this
  | some x =>
    refine ⟨x, rfl, fun fl d q => ?_⟩
    subst q
    rw [e] at this
    cases fl with
    | sh => rfl
    | ow => cases this
    | bx => cases this
section
variable {P : Pk} {T : Addr → Prop} {σ σ2 : SS} {ρ ρ2 : En} {H H2 : Hp} {is : List Nat}
theorem Sim.wiped (S : Sim P T σ ρ H) (hn : noOwn ρ is = true) : Sim P T (wipe σ is) (wipeE ρ is) H ∧ (∀ b, Own (wipe σ is) (wipeE ρ is) b → Own σ ρ b) ∧ (∀ b, Own σ ρ b → Own (wipe σ is) (wipeE ρ is) b) := by
  have ow : ∀ b, Own (wipe σ is) (wipeE ρ is) b → Own σ ρ b := fun b ⟨i, fl, d, h1, h2, h3⟩ => by
    obtain ⟨k1, k2⟩ := wipeE_get h1
    rw [wipe_out' k1] at h3
    exact ⟨i, fl, d, k2, h2, h3⟩
  have ow' : ∀ b, Own σ ρ b → Own (wipe σ is) (wipeE ρ is) b := fun b ⟨i, fl, d, h1, h2, h3⟩ => by
    have k1 : i ∉ is := fun z => by
      obtain ⟨x, e, hx⟩ := noOwn_spec hn z
      rw [h1] at e; cases e
      exact h2 (hx fl d rfl)
    exact ⟨i, fl, d, by rw [wipeE_out k1]; exact h1, h2, by rw [wipe_out' k1]; exact h3⟩
  have av : ∀ a o, Av P T σ ρ a → H a = some o → Av P T (wipe σ is) (wipeE ρ is) a ∧ H a = some o := fun a o ⟨h1, h2, h3⟩ e => ⟨⟨h1, fun z => h2 (ow a z), h3⟩, e⟩
  refine ⟨⟨by rw [wipe_length, wipeE_len]; exact S.len, fun i d e => ?_, fun i fl d e n => ?_, fun i j f1 f2 d1 d2 a h1 h2 h3 h4 h5 h6 => ?_, fun i d a h1 h2 => ?_, fun i d h => ?_, fun b q => ⟨(S.tn b q).1, fun z => (S.tn b q).2 (ow b z)⟩, S.keep, S.dom, S.sB, S.tp⟩, ow, ow'⟩
  · obtain ⟨k1, k2⟩ := wipeE_get e
    obtain ⟨v, q1, q2⟩ := S.sh i d k2
    exact ⟨v, by rw [wipe_out' k1]; exact q1, q2.mono av⟩
  · obtain ⟨k1, k2⟩ := wipeE_get e
    obtain ⟨a, o, q2, q3, q4⟩ := S.ow i fl d k2 n
    exact ⟨a, o, by rw [wipe_out' k1]; exact q2, q3, q4.mono av⟩
  · obtain ⟨k1, k2⟩ := wipeE_get h1
    obtain ⟨k3, k4⟩ := wipeE_get h3
    rw [wipe_out' k1] at h5
    rw [wipe_out' k3] at h6
    exact S.dj i j f1 f2 d1 d2 a k2 h2 k4 h4 h5 h6
  · obtain ⟨k1, k2⟩ := wipeE_get h1
    rw [wipe_out' k1] at h2
    exact S.new i d a k2 h2
  · obtain ⟨k1, k2⟩ := wipeE_get h
    rw [wipe_out' k1]
    exact S.bx i d k2
/-- out of a turn: the block's own names as ahead -/
theorem Sim.backed (S : Sim P T σ ρ H) (hn : noOwn ρ is = true) (S2 : Sim P T σ2 ρ2 H2) (hw : ∀ j, j ∉ is → σ2[j]? = σ[j]?) (hl : ρ2.length = ρ.length) (st : Stp (wipe σ is) (wipeE ρ is) H σ2 ρ2 H2) :
    Sim P T σ (backE ρ ρ2 is) H2 ∧ Stp σ ρ H σ (backE ρ ρ2 is) H2 := by
  obtain ⟨_, w1, w2⟩ := S.wiped (is := is) hn
  have get : ∀ {j : Nat} {fl : Fl} {d : D}, (backE ρ ρ2 is)[j]? = some (some (fl, d)) → (j ∈ is ∧ fl = .sh ∧ ρ[j]? = some (some (fl, d))) ∨ (j ∉ is ∧ ρ2[j]? = some (some (fl, d)) ∧ σ2[j]? = σ[j]?) := fun {j fl d} h => by
    by_cases hj : j ∈ is
    · left
      have q := backE_in hj h
      obtain ⟨x, e, hx⟩ := noOwn_spec hn hj
      unfold slotAt at q
      rw [e] at q
      have q : some (fl, d) = x := q
      subst q
      exact ⟨hj, hx fl d rfl, e⟩
    · right
      rw [backE_out hj] at h
      exact ⟨hj, h, hw j hj⟩
  have ow : ∀ b, Own σ (backE ρ ρ2 is) b → Own σ2 ρ2 b := fun b ⟨j, fl, d, h1, h2, h3⟩ => by
    rcases get h1 with ⟨_, q, _⟩ | ⟨_, q1, q2⟩
    · exact absurd q h2
    · exact ⟨j, fl, d, q1, h2, by rw [q2]; exact h3⟩
  have st' : Stp σ ρ H σ (backE ρ ρ2 is) H2 := ⟨fun b o e n => st.fr b o e fun z => n (w1 b z), fun b z => (st.os b (ow b z)).imp (w1 b) id, st.dm⟩
  have av2 : ∀ a o, Av P T σ2 ρ2 a → H2 a = some o → Av P T σ (backE ρ ρ2 is) a ∧ H2 a = some o := fun a o ⟨h1, h2, h3⟩ e => ⟨⟨h1, fun z => h2 (ow a z), h3⟩, e⟩
  have av1 := av_step (P := P) st' (Tg.refl (T := T) (H := H))
  refine ⟨⟨by rw [backE_len, hl]; exact S.len, fun j d e => ?_, fun j fl d e n => ?_, fun i j f1 f2 d1 d2 a h1 h2 h3 h4 h5 h6 => ?_, fun j d a h1 h2 => ?_, fun j d h => ?_, fun b q => ⟨(S2.tn b q).1, fun z => (S2.tn b q).2 (ow b z)⟩, S2.keep, S2.dom, S2.sB, S2.tp⟩, st'⟩
  · rcases get e with ⟨_, _, q⟩ | ⟨_, q1, q2⟩
    · obtain ⟨v, k1, k2⟩ := S.sh j d q
      exact ⟨v, k1, k2.mono av1⟩
    · obtain ⟨v, k1, k2⟩ := S2.sh j d q1
      exact ⟨v, by rw [← q2]; exact k1, k2.mono av2⟩
  · rcases get e with ⟨_, q, _⟩ | ⟨_, q1, q2⟩
    · exact absurd q n
    · obtain ⟨a, o, k2, k3, k4⟩ := S2.ow j fl d q1 n
      exact ⟨a, o, by rw [← q2]; exact k2, k3, k4.mono av2⟩
  · rcases get h1 with ⟨_, q, _⟩ | ⟨_, q1, q2⟩
    · exact absurd q h2
    · rcases get h3 with ⟨_, q, _⟩ | ⟨_, q3, q4⟩
      · exact absurd q h4
      · exact S2.dj i j f1 f2 d1 d2 a q1 h2 q3 h4 (by rw [q2]; exact h5) (by rw [q4]; exact h6)
  · rcases get h1 with ⟨_, q, _⟩ | ⟨_, q1, q2⟩
    · cases q
    · exact S2.new j d a q1 (by rw [q2]; exact h2)
  · rcases get h with ⟨_, q, _⟩ | ⟨_, q1, q2⟩
    · cases q
    · rw [← q2]; exact S2.bx j d q1
end
end DL
set_option Elab.async false
set_option linter.all false
set_option maxRecDepth 100000
set_option maxHeartbeats 2000000
namespace DL
open PySem PySem.Spec PyProof.Rows L2
def WTs (X : Cx) (ifs : List Expr) (σ : SS) (H : Hp) (Q : Bool → Hp → Prop) : Prop := ∃ t, PTs X ifs t ∧ t σ H Q
theorem ptsW {X : Cx} {ifs : List Expr} : PTs X ifs (WTs X ifs) := ⟨fun pins s σ H Q I ⟨t, ht, h⟩ => ht.run pins s σ H Q I h⟩
def DTs (X : Cx) (ifs : List Expr) (f : Ft) : Prop :=
  ∀ P T σ ρ H b ρ', Sim P T σ ρ H → f ρ = some (b, ρ') → ∀ Q : Bool → Hp → Prop, (∀ H', Sim P T σ ρ' H' → Stp σ ρ H σ ρ' H' → Kp ρ ρ' → Q b H') → WTs X ifs σ H Q
theorem dts_nil {X : Cx} : DTs X [] ftrue := fun P T σ ρ H b ρ' S hf Q q => by
  cases hf
  exact ⟨_, pts_nil, q H S .refl .refl⟩
theorem dts_one {X : Cx} {c : Expr} {f : Ft} (h : DT X c f) : DTs X [c] f := fun P T σ ρ H b ρ' S hf Q q => ⟨_, pts_one ptW, h P T σ ρ H b ρ' S hf Q q⟩
section
variable {P : Pk} {T : Addr → Prop} {σ : SS} {ρ ρ1 ρ2 : En} {H H1 : Hp} {is : List Nat}
theorem back_get {j : Nat} (hn : noOwn ρ is = true) (hl : ρ2.length = ρ.length) (hj : j ∈ is) : (backE ρ ρ2 is)[j]? = ρ[j]? := by
  obtain ⟨x, e, hx⟩ := noOwn_spec hn hj
  have h1 : j < (backE ρ ρ2 is).length := by
    rw [backE_len, hl]
    exact (List.getElem?_eq_some_iff.mp e).1
  have e2 : (backE ρ ρ2 is)[j]? = some ((backE ρ ρ2 is)[j]) := List.getElem?_eq_getElem h1
  have q := backE_in hj e2
  rw [e2, q, e]
  unfold slotAt
  rw [e]
theorem noOwn_back (hn : noOwn ρ is = true) (hl : ρ2.length = ρ.length) : noOwn (backE ρ ρ2 is) is = true := by
  have key : ∀ i ∈ is, (backE ρ ρ2 is)[i]? = ρ[i]? := fun i hi => back_get hn hl hi
  refine List.all_eq_true.mpr fun i hi => ?_
  rw [key i hi]
  exact List.all_eq_true.mp hn i hi
theorem kp_back (hn : noOwn ρ is = true) (hl : ρ2.length = ρ.length) (kp : Kp (wipeE ρ is) ρ2) : Kp ρ (backE ρ ρ2 is) := fun j x h => by
  by_cases hj : j ∈ is
  · exact ⟨x, by rw [back_get hn hl hj]; exact h⟩
  · obtain ⟨y, e⟩ := kp j x (by rw [wipeE_out hj]; exact h)
    exact ⟨y, by rw [backE_out hj]; exact e⟩
theorem own_back {σ2 : SS} (hn : noOwn ρ is = true) (hw : ∀ j, j ∉ is → σ2[j]? = σ[j]?) {b : Addr} (h : Own σ (backE ρ ρ2 is) b) : Own σ2 ρ2 b := by
  obtain ⟨j, fl, d, h1, h2, h3⟩ := h
  by_cases hj : j ∈ is
  · have q := backE_in hj h1
    obtain ⟨x, e, hx⟩ := noOwn_spec hn hj
    unfold slotAt at q
    rw [e] at q
    exact absurd (hx fl d q.symm) h2
  · rw [backE_out hj] at h1
    exact ⟨j, fl, d, h1, h2, by rw [hw j hj]; exact h3⟩
/-- a temporary is written -/
theorem Sim.wtmp {a : Addr} {o : HO} (S : Sim P T σ ρ H) (ht : T a) (h0 : P.H0 a = none) (nt : ∀ xs, o ≠ .tup xs := by exact nofun) : Sim P T σ ρ (upd H a o) := by
  have av : ∀ b u, Av P T σ ρ b → H b = some u → Av P T σ ρ b ∧ upd H a o b = some u := fun b u h e => ⟨h, by rw [upd_ne (fun z => h.2.2 (by rw [z]; exact ht))]; exact e⟩
  have dm : ∀ b u, H b = some u → ∃ u', upd H a o b = some u' := fun b u e => by
    by_cases hb : b = a
    · subst hb; exact ⟨o, upd_same⟩
    · exact ⟨u, by rw [upd_ne hb]; exact e⟩
  refine { S with sh := fun i d e => ?_, ow := fun i fl d e n => ?_, tn := fun b q => ⟨?_, (S.tn b q).2⟩, keep := fun b u e n => ?_, dom := fun b u e => ?_, tp := fun b xs e => ?_ }
  · obtain ⟨v, q1, q2⟩ := S.sh i d e
    exact ⟨v, q1, q2.mono av⟩
  · obtain ⟨b, o1, q2, q3, q4⟩ := S.ow i fl d e n
    refine ⟨b, o1, q2, ?_, q4.mono av⟩
    rw [upd_ne (fun z => (S.tn a ht).2 ⟨i, fl, d, e, n, by rw [← z]; exact q2⟩)]
    exact q3
  · obtain ⟨u, e⟩ := (S.tn b q).1
    exact dm b u e
  · rw [upd_ne (fun z => by rw [z, h0] at e; cases e)]
    exact S.keep b u e n
  · obtain ⟨u', e'⟩ := S.dom b u e
    exact dm b u' e'
  · by_cases hb : b = a
    · subst hb
      rw [upd_same] at e
      exact absurd (Option.some.inj e) (nt xs)
    · rw [upd_ne hb] at e
      exact S.tp b xs e
theorem Stp.wtmp {σ' : SS} {ρ' : En} {H' : Hp} {a : Addr} {o : HO} (st : Stp σ ρ H σ' ρ' H') (hn : H a = none) : Stp σ ρ H σ' ρ' (upd H' a o) := by
  have na : ∀ b u, H b = some u → b ≠ a := fun b u e z => by rw [z, hn] at e; cases e
  exact ⟨fun b u e n => by rw [upd_ne (na b u e)]; exact st.fr b u e n, st.os, fun b u e => by
    obtain ⟨u', e'⟩ := st.dm b u e
    exact ⟨u', by rw [upd_ne (na b u e)]; exact e'⟩⟩
end
section
variable {X : Cx} {elt tg iter : Expr} {ifs : List Expr} {scope : Scope} {own : List (Str × Nat)} {is : List Nat} {pos : Pos} {g : Fi} {b : Fg} {t : Ft} {fe : Fe}
abbrev Blk (X : Cx) (scope : Scope) (Φ : Cx → Prop) : Prop := ∀ (s : Shared) (H : Hp) (C : Addr) (cl : List (Str × Addr)) (fp : List Addr), Φ (X.blk s H scope (compEnvC scope cl C X.env) fp)
def RG (X : Cx) (scope : Scope) (tg : Expr) : TG := fun v σ H Q => Blk X scope fun Y => WG Y tg v σ H Q
def RT (X : Cx) (scope : Scope) (ifs : List Expr) : TT := fun σ H Q => Blk X scope fun Y => WTs Y ifs σ H Q
def RE (X : Cx) (scope : Scope) (elt : Expr) : TE := fun σ H Q => Blk X scope fun Y => WE Y elt σ H Q
theorem pgB : Blk X scope fun Y => PG Y tg (RG X scope tg) := fun s H C cl fp => ⟨fun pins s' σ H' v u Q I r h => h s H C cl fp pins s' u I r⟩
theorem ptB : Blk X scope fun Y => PTs Y ifs (RT X scope ifs) := fun s H C cl fp => ⟨fun pins s' σ H' Q I h => ptsW.run pins s' σ H' Q I (h s H C cl fp)⟩
theorem peB : Blk X scope fun Y => PE Y elt (RE X scope elt) := fun s H C cl fp => ⟨fun pins s' σ H' Q I h => h s H C cl fp pins s' I⟩
theorem lc_D (hg : Blk X scope fun Y => DG Y tg is b) (ht : Blk X scope fun Y => DTs Y ifs t) (he : Blk X scope fun Y => DE Y elt fe) (hsub : ∀ i ∈ is, i ∈ own.map (·.2))
    {P T σ ρ H rv ρ'} (S : Sim P T σ ρ H) (hi : ∀ items ρ1, g ρ = some (items, ρ1) → ∀ R : It → Hp → Prop, (∀ J H' T', Sim P T' σ ρ1 H' → Stp σ ρ H σ ρ1 H' → Kp ρ ρ1 → Tg T H T' → Walk P T' σ ρ1 H' J items → R J H') → WI X tg iter σ H R) (hf : flc (own.map (·.2)) g b t fe ρ = some (rv, ρ')) {Q : VK} (q : ∀ v H' T', Aft P T σ ρ H rv ρ' v H' T' → Q v H') :
    tLc (WI X tg iter) (RG X scope tg) (RT X scope ifs) (RE X scope elt) (own.map (·.2)) σ H Q := by
  generalize hown : own.map (·.2) = vs at hf hsub ⊢
  simp only [flc, Option.bind_eq_some_iff] at hf
  obtain ⟨⟨items, ρ1⟩, e1, e2⟩ := hf
  by_cases hn : noOwn ρ1 vs = true
  · simp only [hn, if_true, Option.map_eq_some_iff] at e2
    obtain ⟨⟨res, ρ2⟩, e3, e4⟩ := e2
    obtain ⟨rfl, rfl⟩ := Prod.mk.inj e4
    refine hi items ρ1 e1 _ fun J H1 T1 S1 st1 kp1 tg1 W => ?_
    intro Dl hD
    obtain ⟨S1', st1'⟩ := S1.alloc (o := .lst []) hD
    refine ⟨fun i m H' => m = items.length - i ∧ i ≤ items.length ∧ ∃ ρi acc xs, Sim P (fun b => T1 b ∨ b = Dl) σ ρi H' ∧ Stp σ ρ1 H1 σ ρi H' ∧ H' Dl = some (.lst xs) ∧ RepA (Av P (fun b => T1 b ∨ b = Dl) σ ρi) H' xs acc ∧ noOwn ρi vs = true ∧ Kp ρ1 ρi ∧ lcD vs b t fe (items.drop i) ρi acc = some (res, ρ2),
      ⟨_, rfl, Nat.zero_le _, ρ1, [], [], S1', st1', upd_same, .nil, hn, .refl, e3⟩, ?_⟩
    rintro i m H2 ⟨rfl, hil, ρi, acc, xs, S2, st2, hDl, ra, hni, kpi, e5⟩
    have hfr : ∀ b o, H1 b = some o → ¬ Own σ ρ1 b → H2 b = some o := st2.fr
    by_cases hlt : i < items.length
    · right
      have hd : items.drop i = items[i] :: items.drop (i + 1) := List.drop_eq_getElem_cons hlt
      rw [hd] at e5
      simp only [lcD, Option.bind_eq_some_iff] at e5
      obtain ⟨ρ3, e6, ⟨c, ρ4⟩, e7, e8⟩ := e5
      refine ⟨W.go i H2 hfr hlt, fun H' => ∃ ρi acc xs, Sim P (fun b => T1 b ∨ b = Dl) σ ρi H' ∧ Stp σ ρ1 H1 σ ρi H' ∧ H' Dl = some (.lst xs) ∧ RepA (Av P (fun b => T1 b ∨ b = Dl) σ ρi) H' xs acc ∧ noOwn ρi vs = true ∧ Kp ρ1 ρi ∧ lcD vs b t fe (items.drop (i + 1)) ρi acc = some (res, ρ2),
        fun H' h => ⟨_, by omega, rfl, hlt, h⟩, fun x H3 hy => ?_⟩
      obtain ⟨up, d, ed, rd⟩ := W.yld i H2 hfr hlt x H3 hy
      have ed' : items[i] = d := by
        rw [List.getElem?_eq_getElem hlt] at ed; exact Option.some.inj ed
      rw [ed'] at e6
      obtain ⟨S3, st3⟩ := S2.grow .refl up (fun b hb => let ⟨o, e⟩ := (S2.tn b hb).1; ⟨o, up b o e⟩)
      obtain ⟨S3w, w1, w2⟩ := S3.wiped (is := vs) hni
      have rd' : Rep (Av P (fun b => T1 b ∨ b = Dl) (wipe σ vs) (wipeE ρi vs)) H3 x d := rd.mono fun a u h e => by
        refine ⟨?_, e⟩
        rcases h with ⟨⟨h1, h2, h3⟩, o', e'⟩ | h
        · refine ⟨h1, fun z => ?_, fun z => z.elim h3 fun z => ?_⟩
          · rcases st2.os a (w1 a z) with z | z
            · exact h2 z
            · rw [e'] at z; cases z
          · rw [z, hD] at e'; cases e'
        · refine ⟨.inr (h0_none S2 h), fun z => ?_, fun z => ?_⟩
          · obtain ⟨o', e'⟩ := own_dom S2 (w1 a z)
            rw [h] at e'; cases e'
          · obtain ⟨⟨o', e'⟩, _⟩ := S2.tn a z
            rw [h] at e'; cases e'
      intro s0 H0 C cl fp
      refine hg s0 H0 C cl fp P _ _ _ H3 x d ρ3 S3w rd' e6 _ fun σ4 H4 S4 st4 ch4 => ?_
      have hw4 : ∀ j, j ∉ vs → σ4[j]? = σ[j]? := fun j hj => by
        rw [ch4.2.1 j fun z => hj (hsub j z), wipe_out' hj]
      have hl4 : σ4.length = σ.length := by rw [ch4.1, wipe_length]
      refine ⟨wipe_eq hl4 hw4, fun s0 H0 C cl fp => ?_⟩
      refine ht s0 H0 C cl fp P _ σ4 ρ3 H4 c ρ4 S4 e7 _ fun H5 S5 st5 kp5 => ?_
      have len5 : ρ4.length = ρi.length := by rw [← S5.len, hl4]; exact S2.len
      cases c with
      | false =>
        rw [if_neg Bool.false_ne_true]
        simp only [Bool.false_eq_true, if_false] at e8
        have stw := st4.trans st5
        obtain ⟨S6, st6⟩ := S3.backed hni S5 hw4 len5 stw
        have hDo : ¬ Own σ ρi Dl := (S2.tn Dl (.inr rfl)).2
        have st26 := st3.trans st6
        refine ⟨_, acc, xs, S6, st2.trans st26, st26.fr Dl _ hDl hDo, ra.mono (av_step st26 .refl), ?_, ?_, e8⟩
        · exact noOwn_back hni len5
        · exact kpi.trans (kp_back hni len5 (ch4.2.2.trans kp5))
      | true =>
        rw [if_pos rfl]
        simp only [if_true, Option.bind_eq_some_iff] at e8
        obtain ⟨⟨r, ρ5⟩, e9, e, e10, ρ6, e11, e12⟩ := e8
        intro s0 H0 C cl fp
        refine he s0 H0 C cl fp P _ σ4 ρ4 H5 r ρ5 S5 e9 _ fun y H6 T6 A => ?_
        obtain ⟨st7, kp7⟩ := rel_stp (σ := σ4) (H := H6) e11
        have S7 := (A.sim.rel e11).less A.tx.tg.1
        have ry := A.val.toSh A.sim e11 e10 A.tx.tg.1 (tx_not1 A S5)
        have len7 : ρ6.length = ρi.length := by rw [← S7.len, hl4]; exact S2.len
        have stw := ((st4.trans st5).trans A.stp).trans st7
        obtain ⟨S8, st8⟩ := S3.backed hni S7 hw4 len7 stw
        have hDo : ¬ Own σ ρi Dl := (S2.tn Dl (.inr rfl)).2
        have st28 := st3.trans st8
        have hD8 : H6 Dl = some (.lst xs) := st28.fr Dl _ hDl hDo
        by_cases hz : acc.length < 16777216
        · rw [if_pos hz] at e12
          have h0 := h0_none S1 hD
          have ry' : Rep (Av P (fun b => T1 b ∨ b = Dl) σ (backE ρi ρ6 vs)) H6 y e := ry.mono fun a u ⟨h1, h2, h3⟩ e => by
            refine ⟨⟨h1, fun z => ?_, h3⟩, e⟩
            exact h2 (own_back hni hw4 z)
          have ra' := (ra.mono (av_step st28 .refl)).append (.cons ry' .nil)
          refine ⟨xs, hD8, by rw [ra.length, sizeLine_eq]; exact hz, _, acc ++ [e], xs ++ [y], S8.wtmp (.inr rfl) h0, (st2.trans st28).wtmp hD, upd_same, ra'.mono fun b u h e => ⟨h, by rw [upd_ne (fun z => h.2.2 (.inr z))]; exact e⟩, noOwn_back hni len7, kpi.trans (kp_back hni len7 (((ch4.2.2.trans kp5).trans A.kp).trans kp7)), e12⟩
        · rw [if_neg hz] at e12; cases e12
    · left
      have e : i = items.length := by omega
      subst e
      rw [List.drop_length] at e5
      cases e5
      have hDn : H Dl = none := by
        cases z : H Dl with
        | none => rfl
        | some o =>
          obtain ⟨o', e'⟩ := st1.dm Dl o z
          rw [hD] at e'; cases e'
      have hl : ∀ b, (T b ∨ b = Dl) → (T1 b ∨ b = Dl) := fun b z => z.elim (fun y => .inl (tg1.1 b y)) .inr
      exact ⟨W.stop H2 hfr, q _ H2 (fun b => T b ∨ b = Dl) ⟨S2.less hl, st1.trans st2, kp1.trans kpi, ⟨Dl, rfl, hDn, rfl⟩, Dl, _, rfl, .inr rfl, hDl, h0_none S1 hD, .lst (ra.mono fun a o ⟨h1, h2, h3⟩ e => ⟨⟨h1, h2, fun z => h3 (hl a z)⟩, e⟩)⟩⟩
  · rw [if_neg hn] at e2; cases e2
theorem de_lc (hc : X.calm = true) (hN : X.N.Nodup) (hi : DI X tg iter g) (ok : BlkOk X.N X.env.scope scope own) (hg : Blk X scope fun Y => DG Y tg is b) (ht : Blk X scope fun Y => DTs Y ifs t) (he : Blk X scope fun Y => DE Y elt fe) (hsub : ∀ i ∈ is, i ∈ own.map (·.2) := by decide)
    (hs : ∀ x, foldedSetIterable iter X.env x = pure x := by intro _; rfl) : DE X (.ListComp elt [⟨tg, iter, ifs, 0⟩] scope pos) (flc (own.map (·.2)) g b t fe) := by
  intro P T σ ρ H rv ρ' S hf Q q
  refine PE.we (pe_lc (own := own) hc hN piW ok pgB ptB peB hs) ?_
  exact lc_D hg ht he hsub S (fun items ρ1 e1 R q => hi P T σ ρ H items ρ1 S e1 R q) hf q
/-- name = [..] on one line -/
theorem ds_setLc {i : Nat} {y : Str} {py spos : Pos} (hc : X.calm = true) (hN : X.N.Nodup) (hi : DI X tg iter g) (ok : BlkOk X.N X.env.scope scope own) (hg : Blk X scope fun Y => DG Y tg is b) (ht : Blk X scope fun Y => DTs Y ifs t) (he : Blk X scope fun Y => DE Y elt fe)
    (hsw : swapsWith (.ListComp elt [⟨tg, iter, ifs, 0⟩] scope pos) (some (.Name y py)) spos.line X.env = pure true) (hy : X.N[i]? = some y := by rfl) (hyl : X.env.scope.names.lookup y = some .local := by rfl) (hsub : ∀ i ∈ is, i ∈ own.map (·.2) := by decide)
    (hs : ∀ x, foldedSetIterable iter X.env x = pure x := by intro _; rfl) : DS X (.Assign [.Name y py] (.ListComp elt [⟨tg, iter, ifs, 0⟩] scope pos) spos) (fset [i] (f1 (flc (own.map (·.2)) g b t fe))) := fun P T σ ρ H o S hf Ds q => by
  simp only [fset, Option.bind_eq_some_iff, Option.map_eq_some_iff] at hf
  obtain ⟨⟨rs, ρ1⟩, e1, ds, e2, ρ2, e3, ρ3, e4, e5⟩ := hf
  cases e5
  simp only [f1, Option.map_eq_some_iff] at e1
  obtain ⟨⟨r, ρ1'⟩, e6, e7⟩ := e1
  cases e7
  refine PS.ws (ps_setLc (own := own) hc hN hy hyl hsw piW ok pgB ptB peB hs) ?_
  refine lc_D hg ht he hsub S (fun items ρ1 e1 R q => hi P T σ ρ H items ρ1 S e1 R q) e6 fun v H1 T1 A => ?_
  have AA : AftA P T σ ρ H [r] ρ1' [v] H1 T1 := ⟨A.sim, A.stp, A.kp, A.tx.tg, ⟨fun d e => by
    subst e
    obtain ⟨a, z1, z2, _⟩ := A.tx
    exact ⟨a, z1, z2, fun i d' z => by simp at z⟩, trivial⟩, ⟨A.val, trivial⟩⟩
  obtain ⟨S3, st3⟩ := store_fin S AA e2 e3 e4
  exact q (σ.set i (some v)) H1 S3 st3
end
end DL
set_option Elab.async false
set_option linter.all false
set_option maxRecDepth 100000
set_option maxHeartbeats 2000000
namespace DL
open PySem PySem.Spec PyProof.Rows L2
def enA (bx : Option Nat) : Nat → List D → En
  | _, [] => []
  | i, d :: ds => some (if bx = some i then .bx else .sh, d) :: enA bx (i + 1) ds
def en0 (bx : Option Nat) (n : Nat) (ds : List D) : En := enA bx 0 ds ++ List.replicate (n - ds.length) none
def bxOf (bx : Option Nat) (ρ : En) : Option (List D) := match bx with
  | none => some []
  | some i => match ρ[i]? with
    | some (some (.bx, .list es)) => some es
    | _ => none
def retD (ρ : En) : RV → Option (Bool × D)
  | .sh d => some (false, d)
  | .fr d => some (true, d)
  | .al i => match ρ[i]? with
    | some (some (.ow, d)) => some (true, d)
    | some (some (.sh, d)) => some (false, d)
    | _ => none
def retO (bx : Option Nat) : Out → Option FR
  | .nx ρ => (bxOf bx ρ).map fun es => ⟨false, .none, es⟩
  | .rt r ρ => (retD ρ r).bind fun x => (bxOf bx ρ).map fun es => ⟨x.1, x.2, es⟩
  | _ => none
/-- the def's function on data: np parameters, n names in all -/
def toF (np n : Nat) (bx : Option Nat) (f : Fst) : FS := fun ds => if ds.length = np then (f (en0 bx n ds)).bind (retO bx) else none
theorem enA_len (bx : Option Nat) : ∀ (ds : List D) (i : Nat), (enA bx i ds).length = ds.length
  | [], _ => rfl
  | d :: ds, i => by simp [enA, enA_len bx ds]
theorem enA_get (bx : Option Nat) : ∀ (ds : List D) (i j : Nat) (x : Option (Fl × D)), (enA bx i ds)[j]? = some x → ∃ d, ds[j]? = some d ∧ x = some (if bx = some (i + j) then .bx else .sh, d)
  | [], i, j, x, h => by simp [enA] at h
  | d :: ds, i, 0, x, h => by simp [enA] at h; exact ⟨d, rfl, by rw [← h]; simp⟩
  | d :: ds, i, j + 1, x, h => by
    obtain ⟨e, h1, h2⟩ := enA_get bx ds (i + 1) j x (by simpa [enA] using h)
    exact ⟨e, by simpa using h1, by rw [h2, show i + 1 + j = i + (j + 1) by omega]⟩
theorem en0_get {bx : Option Nat} {n : Nat} {ds : List D} {j : Nat} {fl : Fl} {d : D} (h : (en0 bx n ds)[j]? = some (some (fl, d))) : ds[j]? = some d ∧ j < ds.length ∧ fl = if bx = some j then .bx else .sh := by
  unfold en0 at h
  by_cases hj : j < (enA bx 0 ds).length
  · rw [List.getElem?_append_left hj] at h
    obtain ⟨e, h1, h2⟩ := enA_get bx ds 0 j _ h
    cases h2
    rw [enA_len] at hj
    exact ⟨h1, hj, by rw [Nat.zero_add]⟩
  · rw [List.getElem?_append_right (by omega), List.getElem?_replicate] at h
    split at h <;> cases h
theorem start_get {N : List Str} {vs : List V} {j : Nat} (h : j < vs.length) : (start N vs)[j]? = some (vs[j]?) := by
  unfold L2.start
  rw [List.getElem?_append_left (by simpa using h), List.getElem?_map, List.getElem?_eq_getElem h]
  rfl
section
variable {H : Hp} {vs : List V} {ds : List D} {k : Option Nat} {S : Addr → Prop} {N : List Str}
theorem bxOf_spec {P : Pk} {T : Addr → Prop} {σ : SS} {ρ : En} {H' : Hp} {es : List D} (Si : Sim P T σ ρ H') (h : bxOf k ρ = some es) (hσ : P.σ0 = start N vs) (hlen : ∀ i, k = some i → i < vs.length) : ∀ b, IsBx k vs b → ∃ xs, H' b = some (.lst xs) ∧ RepA (Av P T σ ρ) H' xs es := fun b ⟨i, e1, e2⟩ => by
  subst e1
  unfold bxOf at h
  cases e : ρ[i]? with
  | none => simp only [e] at h; cases h
  | some x =>
    cases x with
    | none => simp only [e] at h; cases h
    | some y =>
      obtain ⟨fl, d⟩ := y
      cases fl with
      | sh => simp only [e] at h; cases h
      | ow => simp only [e] at h; cases h
      | bx =>
        obtain ⟨a, o, q2, q3, q4⟩ := Si.ow i .bx d e (by decide)
        cases q4 with
        | dct => simp only [e] at h; cases h
        | opq => simp only [e] at h; cases h
        | @lst xs es' q4 =>
        simp only [e] at h
        cases h
        have z := (Si.bx i _ e).1
        rw [q2, hσ, start_get (hlen i rfl), e2] at z
        cases z
        exact ⟨xs, q3, q4⟩
/-- the entry -/
theorem sim0 (A : ArgsOk k S H vs ds) (hlen : vs.length ≤ N.length) : Sim ⟨H, S, IsBx k vs, start N vs⟩ (fun _ => False) (start N vs) (en0 k N.length ds) H := by
  have g : ∀ {j : Nat} {fl : Fl} {d : D}, (en0 k N.length ds)[j]? = some (some (fl, d)) → ∃ v, ds[j]? = some d ∧ vs[j]? = some v ∧ (start N vs)[j]? = some (some v) ∧ fl = if k = some j then .bx else .sh := fun {j fl d} h => by
    obtain ⟨h1, h2, h3⟩ := en0_get h
    have hj : j < vs.length := by rw [A.len]; exact h2
    exact ⟨vs[j], h1, List.getElem?_eq_getElem hj, by rw [start_get hj, List.getElem?_eq_getElem hj], h3⟩
  have ow : ∀ b, Own (start N vs) (en0 k N.length ds) b → IsBx k vs b := fun b ⟨j, fl, d, h1, h2, h3⟩ => by
    obtain ⟨v, q1, q2, q3, q4⟩ := g h1
    rw [q3] at h3; cases h3
    by_cases hk : k = some j
    · exact ⟨j, hk, q2⟩
    · rw [if_neg hk] at q4; exact absurd q4 h2
  have bxS : ∀ b, IsBx k vs b → ¬ S b ∧ ∃ o, H b = some o := fun b ⟨i, e1, e2⟩ => by
    have hi : i < ds.length := by rw [← A.len]; exact (List.getElem?_eq_some_iff.mp e2).1
    obtain ⟨a, xs, es, q1, q2, q3, q4, q5⟩ := A.bx i _ _ e1 e2 (List.getElem?_eq_getElem hi)
    cases q1
    exact ⟨q5, _, q3⟩
  have av : ∀ b o, S b → H b = some o → Av ⟨H, S, IsBx k vs, start N vs⟩ (fun _ => False) (start N vs) (en0 k N.length ds) b ∧ H b = some o := fun b o h e => ⟨⟨.inl h, fun z => (bxS b (ow b z)).1 h, id⟩, e⟩
  refine ⟨?_, fun j d h => ?_, fun j fl d h n => ?_, fun i j f1 f2 d1 d2 a h1 h2 h3 h4 h5 h6 => ?_, fun j d a h h2 => ?_, fun j d h => ⟨rfl, ⟨fun _ a ha => ?_, fun nI => ?_⟩⟩, fun b z => z.elim, fun b o e _ => e, fun b o e => ⟨o, e⟩, bxS, fun b xs e => ⟨.inl (A.tp b xs e), id⟩⟩
  · unfold L2.start en0
    have := A.len
    simp only [List.length_append, List.length_map, List.length_replicate, enA_len]
    omega
  · obtain ⟨v, q1, q2, q3, q4⟩ := g h
    have hk : k ≠ some j := fun z => by rw [if_pos z] at q4; cases q4
    exact ⟨v, q3, (A.sh j v d hk q2 q1).mono av⟩
  · obtain ⟨v, q1, q2, q3, q4⟩ := g h
    by_cases hk : k = some j
    · obtain ⟨a, xs, es, z1, z2, z3, z4, _⟩ := A.bx j v d hk q2 q1
      subst z1
      rw [z2]
      exact ⟨a, _, q3, z3, .lst (z4.mono av)⟩
    · rw [if_neg hk] at q4; exact absurd q4 n
  · obtain ⟨_, _, _, _, q4⟩ := g h1
    obtain ⟨_, _, _, _, z4⟩ := g h3
    by_cases hi : k = some i
    · by_cases hj : k = some j
      · rw [hi] at hj; cases hj; rfl
      · rw [if_neg hj] at z4; exact absurd z4 h4
    · rw [if_neg hi] at q4; exact absurd q4 h2
  · obtain ⟨_, _, _, _, q4⟩ := g h
    split at q4 <;> cases q4
  · obtain ⟨v, q1, q2, q3, q4⟩ := g h
    rw [q3] at ha; cases ha
    by_cases hk : k = some j
    · exact ⟨j, hk, q2⟩
    · rw [if_neg hk] at q4; cases q4
  · obtain ⟨v, q1, q2, q3, q4⟩ := g h
    by_cases hk : k = some j
    · obtain ⟨a, xs, es, z1, z2, z3, z4, _⟩ := A.bx j v d hk q2 q1
      rw [z2] at nI; cases nI
    · rw [if_neg hk] at q4; cases q4
end
section
variable {P : Program} {w : World} {K : PySem.W.Frag} {mg : Str → Option Value} {base : Heap}
abbrev BodyOk (P : Program) (w : World) (K : PySem.W.Frag) (mg : Str → Option Value) (base : Heap) (N : List Str) (qual : Str) (st : Stmt) (f : Addr) (k : Nat) (fb : Fst) : Prop :=
  ∀ (cdv : Value) (A : Around) (outer : List Env) (s : Shared) (H : Hp) (E : XK), RoomG k (A.deeper (envOfC qual (defScope st) s.heap.objs.size f cdv)) → DSs (cxOf CX0 P w K mg base N qual (defScope st) f cdv A outer s H E).nox (defBody st) fb
theorem okD {x qual : Str} {st : Stmt} {f : Addr} {fd : FuncData} {N ps : List Str} {lv : Nat} {k : Option Nat} {fb : Fst} (F : Fun K x qual st f fd) (Sc : FnScope N ps (defScope st)) (hb : BodyOk P w K mg base N qual st f lv fb) (hps : ps.length ≤ N.length := by decide) :
    FnG P w K mg base CX0 (lv + 1) f fd ps (spD k (toF ps.length N.length k fb)) := by
  have toFlen : ∀ {ds : List D} {r : FR}, toF ps.length N.length k fb ds = some r → ds.length = ps.length ∧ (fb (en0 k N.length ds)).bind (retO k) = some r := fun {ds r} h => by
    unfold toF at h
    by_cases hl : ds.length = ps.length
    · rw [if_pos hl] at h; exact ⟨hl, h⟩
    · rw [if_neg hl] at h; cases h
  refine fnG_of F Sc (fun vs H Q E h => ?_) (fun cdv A outer s H vs Q E hr h => ⟨_, pssW, ?_⟩)
  · obtain ⟨S, ds, r, h1, h2, _⟩ := h
    rw [h2.len, (toFlen h1).1]
  · obtain ⟨S, ds, r, h1, h2, q⟩ := h
    obtain ⟨hl, h1⟩ := toFlen h1
    simp only [Option.bind_eq_some_iff] at h1
    obtain ⟨o, e1, e2⟩ := h1
    have hvl : vs.length ≤ N.length := by rw [h2.len, hl]; exact hps
    have S0 := sim0 (N := N) h2 hvl
    refine hb cdv A outer s H E hr _ _ _ _ H o S0 e1 _ ?_
    have hkl : ∀ i, k = some i → ∀ b, vs[i]? = some (V.ref b) → i < vs.length := fun i _ b e => (List.getElem?_eq_some_iff.mp e).1
    have bxs : ∀ {T : Addr → Prop} {σ' : SS} {ρ' : En} {H' : Hp} {es : List D}, Sim ⟨H, S, IsBx k vs, start N vs⟩ T σ' ρ' H' → bxOf k ρ' = some es → ∀ b, IsBx k vs b → ∃ xs, H' b = some (.lst xs) ∧ RepA (Av ⟨H, S, IsBx k vs, start N vs⟩ T σ' ρ') H' xs es := fun Si hb' b hib => by
      obtain ⟨i, e3, e4⟩ := id hib
      exact bxOf_spec (N := N) Si hb' rfl (fun i' e5 => by rw [e3] at e5; cases e5; exact hkl i e3 b e4) b hib
    have nw : ∀ {T : Addr → Prop} {σ' : SS} {ρ' : En} {H' : Hp}, ∀ b u, Av ⟨H, S, IsBx k vs, start N vs⟩ T σ' ρ' b → H' b = some u → Nw S H T b ∧ H' b = some u := fun b u h e => ⟨⟨h.1, h.2.2⟩, e⟩
    cases o with
    | bk ρ' => cases e2
    | ct ρ' => cases e2
    | nx ρ' =>
      intro σ' H' S' st'
      simp only [retO, Option.map_eq_some_iff] at e2
      obtain ⟨es, e3, e4⟩ := e2
      cases e4
      refine q .non H' (fun _ => False) ⟨S'.keep, S'.dom, fun b z => z.elim, fun _ => .non, fun z => (nomatch z), fun b hb' => ?_⟩
      obtain ⟨xs, z1, z2⟩ := bxs S' e3 b hb'
      exact ⟨xs, z1, z2.mono nw⟩
    | rt rv ρ' =>
      intro v σ' H' T' S' st' tx V0
      simp only [retO, Option.bind_eq_some_iff, Option.map_eq_some_iff] at e2
      obtain ⟨⟨fr, d⟩, e3, es, e4, e5⟩ := e2
      cases e5
      have bxe := fun b hb' => bxs S' e4 b hb'
      cases rv with
      | sh d' =>
        cases e3
        cases tx
        refine q v H' (fun _ => False) ⟨S'.keep, S'.dom, fun b z => z.elim, fun _ => Rep.mono V0 nw, fun z => (nomatch z), fun b hb' => ?_⟩
        obtain ⟨xs, z1, z2⟩ := bxe b hb'
        exact ⟨xs, z1, z2.mono nw⟩
      | fr d' =>
        cases e3
        obtain ⟨a, ea, hn, hT⟩ := tx
        have hT' : ∀ b, T' b ↔ b = a := fun b => by rw [hT]; simp
        refine q v H' T' ⟨S'.keep, S'.dom, fun b z => ?_, fun z => (nomatch z), fun _ => ?_, fun b hb' => ?_⟩
        · rw [(hT' b).mp z]; exact hn
        · obtain ⟨a', o, z1, z3, z4, z5, z6⟩ := V0
          exact ⟨a', o, z1, z3, z4, z6.mono nw⟩
        · obtain ⟨xs, z1, z2⟩ := bxe b hb'
          exact ⟨xs, z1, z2.mono nw⟩
      | al i =>
        cases tx
        obtain ⟨eσ, x, ex⟩ := V0
        obtain ⟨fl, dd⟩ := x
        cases fl with
        | bx => simp only [retD, ex] at e3; cases e3
        | sh =>
          simp only [retD, ex] at e3; cases e3
          obtain ⟨v', q1, q2⟩ := S'.sh i _ ex
          rw [eσ] at q1; cases q1
          refine q v H' (fun _ => False) ⟨S'.keep, S'.dom, fun b z => z.elim, fun _ => q2.mono nw, fun z => (nomatch z), fun b hb' => ?_⟩
          obtain ⟨xs, z1, z2⟩ := bxe b hb'
          exact ⟨xs, z1, z2.mono nw⟩
        | ow =>
          simp only [retD, ex] at e3; cases e3
          obtain ⟨a, o, q2, q3, q4⟩ := S'.ow i .ow _ ex (by decide)
          rw [eσ] at q2; cases q2
          have ha : H a = none := S'.new i _ a ex eσ
          have hoa : Own σ' ρ' a := ⟨i, .ow, _, ex, by decide, eσ⟩
          have nwa : ∀ b u, Av ⟨H, S, IsBx k vs, start N vs⟩ (fun _ => False) σ' ρ' b → H' b = some u → Nw S H (fun b => b = a) b ∧ H' b = some u := fun b u h e => ⟨⟨h.1, fun z => h.2.1 (by rw [z]; exact hoa)⟩, e⟩
          refine q _ H' (fun b => b = a) ⟨S'.keep, S'.dom, fun b z => by rw [z]; exact ha, fun z => (nomatch z), fun _ => ⟨a, o, rfl, rfl, q3, q4.mono nwa⟩, fun b hb' => ?_⟩
          obtain ⟨ys, z1, z2⟩ := bxe b hb'
          exact ⟨ys, z1, z2.mono nwa⟩
end
end DL
set_option Elab.async false
set_option linter.all false
set_option maxRecDepth 100000
set_option maxHeartbeats 2000000
namespace DL
open PySem PySem.Spec PyProof.Rows L2
theorem line_le {n : Nat} (h : n ≤ 16777216) : n ≤ sizeLine := by rw [sizeLine_eq]; exact h
theorem line_lt {n : Nat} (h : n < 16777216) : n < sizeLine := by rw [sizeLine_eq]; exact h
section
variable {S : Addr → Prop} {H : Hp} {v : V}
theorem top_bool {b : Bool} (h : Top S H v (.bool b)) : v = .bl b := by cases (show Rep _ _ _ _ from h); rfl
theorem top_none (h : Top S H v .none) : v = .non := by cases (show Rep _ _ _ _ from h); rfl
theorem top_str {x : Str} (h : Top S H v (.str x)) : v = .str x := by cases (show Rep _ _ _ _ from h); rfl
theorem top_tup {ds : List D} (h : Top S H v (.tuple ds)) : ∃ a xs, v = .ref a ∧ Rd H a (.tup xs) ∧ RepA S H xs ds := by
  cases (show Rep _ _ _ _ from h) with
  | tup h1 h2 h3 => exact ⟨_, _, rfl, .inl h2, h3⟩
theorem top_tupR {ds : List D} (h : Top S H v (.tuple ds)) : Rep S H v (.tuple ds) := h
theorem top_lst {ds : List D} (h : Top S H v (.list ds)) : ∃ a xs, v = .ref a ∧ Rd H a (.lst xs) ∧ RepA S H xs ds := h
end
section
variable {X : Cx}
theorem Inv.lstR {pins : List (Addr × Obj)} {σ : SS} {H : Hp} {s : Shared} {l : Addr} {xs : List V} (I : Inv X pins σ H s) (h : Rd H l (.lst xs)) : xs.length ≤ sizeLine ∧ ∃ (its : List Value) (n : Nat), Vals xs its ∧ xs.length = its.length ∧ s.heap.get? l = some { cls := .type "list", data := .seq its.toArray n } := by
  obtain ⟨z, its, n, r, e⟩ := h.ok I.hok
  exact ⟨z, its, n, r, r.length, e⟩
def rCatL : R2 := fun x y H Q => ∃ l b xs zs, x = .ref l ∧ y = .ref b ∧ Rd H l (.lst xs) ∧ Rd H b (.lst zs) ∧ xs.length + zs.length ≤ sizeLine ∧ ∀ p, H p = none → Q (.ref p) (upd H p (.lst (xs ++ zs)))
theorem op_catL : OpR X (binaryOp .Add) rCatL := by
  intro pins s σ H x y v u Q I rx ry h
  obtain ⟨l, b, xs, zs, rfl, rfl, hH, hB, hz, q⟩ := h
  cases rx
  cases ry
  obtain ⟨z, its, n, r, hl, e⟩ := Inv.lstR I hH
  obtain ⟨z2, its2, n2, r2, hl2, e2⟩ := Inv.lstR I hB
  refine PySem.P.add_list e e2 ?_ (by rw [List.size_toArray, List.size_toArray]; omega)
  have ea : its.toArray ++ its2.toArray = (its ++ its2).toArray := by simp
  rw [ea]
  exact ⟨.ref _, _, I.lnew (t' := s.toks) (r.append r2) (by rw [List.length_append]; omega), rfl, q _ I.fresh⟩
end
def gI (f : Int → Int → Int) : D → D → Option OutV := fun x y => match x, y with
  | .int i, .int j => some (.it (.int (f i j)))
  | _, _ => none
def gIb (f : Int → Int → Bool) : D → D → Option OutV := fun x y => match x, y with
  | .int i, .int j => some (.it (.bool (f i j)))
  | _, _ => none
instance (i j : Int) : Decidable (CMul i j) := by unfold CMul; infer_instance
instance (i j : Int) : Decidable (CMulW i j) := by unfold CMulW; infer_instance
instance (i j : Int) : Decidable (CDiv i j) := by unfold CDiv; infer_instance
instance (i j : Int) : Decidable (CDivW i j) := by unfold CDivW; infer_instance
instance (i j : Int) : Decidable (CPow i j) := by unfold CPow; infer_instance
theorem op2_I {f : Int → Int → Int} : Op2 (rI0 fun i j => .int (f i j)) (gI f) := by
  intro S H x y dx dy o hx hy h
  match dx, dy, h with
  | .int i, .int j, h =>
    cases h
    cases top_int hx
    cases top_int hy
    exact Does.int fun Q q => ⟨i, j, rfl, rfl, q⟩
theorem op2_Ib {f : Int → Int → Bool} : Op2 (rI0 fun i j => .bl (f i j)) (gIb f) := by
  intro S H x y dx dy o hx hy h
  match dx, dy, h with
  | .int i, .int j, h =>
    cases h
    cases top_int hx
    cases top_int hy
    exact Does.bl fun Q q => ⟨i, j, rfl, rfl, q⟩
abbrev gSub := gI (· - ·)
abbrev gLt := gIb fun i j => decide (i < j)
abbrev gLe := gIb fun i j => decide (i ≤ j)
abbrev gGt := gIb fun i j => decide (j < i)
abbrev gGe := gIb fun i j => decide (j ≤ i)
def gFdiv : D → D → Option OutV := fun x y => match x, y with
  | .int i, .int j => if CDiv i j ∨ CDivW i j then some (.it (.int (i / j))) else none
  | _, _ => none
def gMod : D → D → Option OutV := fun x y => match x, y with
  | .int i, .int j => if 0 < j then some (.it (.int (i % j))) else none
  | _, _ => none
def gPow : D → D → Option OutV := fun x y => match x, y with
  | .int i, .int j => if CPow i j then some (.it (.int (i ^ j.toNat))) else none
  | _, _ => none
def gNeg : D → Option OutV := fun x => match x with
  | .int i => some (.it (.int (-i)))
  | _ => none
def gAdd : D → D → Option OutV := fun x y => match x, y with
  | .int i, .int j => some (.it (.int (i + j)))
  | .list xs, .list ys => if xs.length + ys.length ≤ 16777216 then some (.nl (xs ++ ys)) else none
  | .tuple [], .tuple ys => if ys.length ≤ 16777216 then some (.it (.tuple ys)) else none
  | .tuple (x :: xs), .tuple [] => if (x :: xs).length ≤ 16777216 then some (.it (.tuple (x :: xs))) else none
  | .tuple (x :: xs), .tuple (y :: ys) => if (x :: xs).length + (y :: ys).length ≤ 16777216 then some (.nt ((x :: xs) ++ (y :: ys))) else none
  | .str x, .str y => if x.length + y.length ≤ 16777216 then some (.it (.str (x ++ y))) else none
  | _, _ => none
def rAdd (K : PySem.W.Frag) : R2 := fun x y H Q => (rI0 fun i j => .int (i + j)) x y H Q ∨ rCatL x y H Q ∨ rCatA K x y H Q ∨ (∃ i j, x = .str i ∧ y = .str j ∧ i.length + j.length ≤ sizeLine ∧ Q (.str (i ++ j)) H)
theorem op_add' {X : Cx} : OpR X (binaryOp .Add) (rAdd X.K) := op_add.or (op_catL.or (op_catA.or op_add_str))
theorem op2_add {K : PySem.W.Frag} : Op2 (rAdd K) gAdd := by
  intro S H x y dx dy o hx hy h
  match dx, dy, h with
  | .int i, .int j, h =>
    cases h
    cases top_int hx
    cases top_int hy
    exact Does.int fun Q q => .inl ⟨i, j, rfl, rfl, q⟩
  | .list xs, .list ys, h =>
    obtain ⟨a, us, rfl, r1, r2⟩ := top_lst hx
    obtain ⟨b, ws, rfl, r3, r4⟩ := top_lst hy
    have h : (if xs.length + ys.length ≤ 16777216 then some (OutV.nl (xs ++ ys)) else none) = some o := h
    by_cases hz : xs.length + ys.length ≤ 16777216
    · rw [if_pos hz] at h; cases h
      exact ⟨us ++ ws, r2.append r4, fun Q q => .inr (.inl ⟨a, b, us, ws, rfl, rfl, r1, r3, by rw [r2.length, r4.length]; exact line_le hz, q⟩)⟩
    · rw [if_neg hz] at h; cases h
  | .tuple [], .tuple ys, h =>
    obtain ⟨a, us, rfl, r1, r2⟩ := top_tup hx
    obtain ⟨b, ws, rfl, r3, r4⟩ := top_tup hy
    cases r2
    have h : (if ys.length ≤ 16777216 then some (OutV.it (.tuple ys)) else none) = some o := h
    by_cases hz : ys.length ≤ 16777216
    · rw [if_pos hz] at h; cases h
      exact ⟨_, top_tupR hy, fun Q q => .inr (.inr (.inl ⟨a, b, [], ws, rfl, rfl, .inl r1, .inl r3, by rw [r4.length, List.length_nil, Nat.zero_add]; exact line_le hz, fun _ => q, fun z => (z rfl).elim, fun z => (z rfl).elim⟩))⟩
    · rw [if_neg hz] at h; cases h
  | .tuple (d :: xs), .tuple [], h =>
    obtain ⟨a, us, rfl, r1, r2⟩ := top_tup hx
    obtain ⟨b, ws, rfl, r3, r4⟩ := top_tup hy
    cases r4
    have h : (if (d :: xs).length ≤ 16777216 then some (OutV.it (.tuple (d :: xs))) else none) = some o := h
    by_cases hz : (d :: xs).length ≤ 16777216
    · rw [if_pos hz] at h; cases h
      have n1 : us ≠ [] := fun z => by subst z; cases r2
      exact ⟨_, top_tupR hx, fun Q q => .inr (.inr (.inl ⟨a, b, us, [], rfl, rfl, .inl r1, .inl r3, by rw [r2.length, List.length_nil, Nat.add_zero]; exact line_le hz, fun z => (n1 z).elim, fun _ _ => q, fun _ z => (z rfl).elim⟩))⟩
    · rw [if_neg hz] at h; cases h
  | .tuple (d :: xs), .tuple (e :: ys), h =>
    obtain ⟨a, us, rfl, r1, r2⟩ := top_tup hx
    obtain ⟨b, ws, rfl, r3, r4⟩ := top_tup hy
    have h : (if (d :: xs).length + (e :: ys).length ≤ 16777216 then some (OutV.nt ((d :: xs) ++ (e :: ys))) else none) = some o := h
    by_cases hz : (d :: xs).length + (e :: ys).length ≤ 16777216
    · rw [if_pos hz] at h; cases h
      have n1 : us ≠ [] := fun z => by subst z; cases r2
      have n2 : ws ≠ [] := fun z => by subst z; cases r4
      exact ⟨us ++ ws, r2.append r4, fun Q q => .inr (.inr (.inl ⟨a, b, us, ws, rfl, rfl, .inl r1, .inl r3, by rw [r2.length, r4.length]; exact line_le hz, fun z => (n1 z).elim, fun _ z => (n2 z).elim, fun _ _ => q⟩))⟩
    · rw [if_neg hz] at h; cases h
  | .str i, .str j, h =>
    cases top_str hx
    cases top_str hy
    have h : (if i.length + j.length ≤ 16777216 then some (OutV.it (.str (i ++ j))) else none) = some o := h
    by_cases hz : i.length + j.length ≤ 16777216
    · rw [if_pos hz] at h; cases h
      exact ⟨_, .str _, fun Q q => .inr (.inr (.inr ⟨i, j, rfl, rfl, line_le hz, q⟩))⟩
    · rw [if_neg hz] at h; cases h
/-- guarded results -/
theorem guard_of {c : Prop} [Decidable c] {α : Type} {a b : α} (h : (if c then some a else none) = some b) : c ∧ a = b := by
  by_cases hc : c
  · rw [if_pos hc] at h; exact ⟨hc, Option.some.inj h⟩
  · rw [if_neg hc] at h; cases h
theorem op2_fdiv : Op2 (fun x y H Q => (rI CDiv fun i j => .int (i / j)) x y H Q ∨ (rI CDivW fun i j => .int (i / j)) x y H Q) gFdiv := by
  intro S H x y dx dy o hx hy h
  match dx, dy, h with
  | .int i, .int j, h =>
    obtain ⟨hc, rfl⟩ := guard_of (show (if CDiv i j ∨ CDivW i j then some (OutV.it (.int (i / j))) else none) = some o from h)
    cases top_int hx
    cases top_int hy
    exact Does.int fun Q q => hc.elim (fun hc => .inl ⟨i, j, rfl, rfl, hc, q⟩) fun hc => .inr ⟨i, j, rfl, rfl, hc, q⟩
theorem op2_mod : Op2 (rI (fun _ j => 0 < j) fun i j => .int (i % j)) gMod := by
  intro S H x y dx dy o hx hy h
  match dx, dy, h with
  | .int i, .int j, h =>
    obtain ⟨hc, rfl⟩ := guard_of (show (if 0 < j then some (OutV.it (.int (i % j))) else none) = some o from h)
    cases top_int hx
    cases top_int hy
    exact Does.int fun Q q => ⟨i, j, rfl, rfl, hc, q⟩
theorem op2_pow : Op2 (rI CPow fun i j => .int (i ^ j.toNat)) gPow := by
  intro S H x y dx dy o hx hy h
  match dx, dy, h with
  | .int i, .int j, h =>
    obtain ⟨hc, rfl⟩ := guard_of (show (if CPow i j then some (OutV.it (.int (i ^ j.toNat))) else none) = some o from h)
    cases top_int hx
    cases top_int hy
    exact Does.int fun Q q => ⟨i, j, rfl, rfl, hc, q⟩
theorem op1_neg : Op1 (rU fun i => .int (-i)) gNeg := by
  intro S H x dx o hx h
  match dx, h with
  | .int i, h =>
    cases h
    cases top_int hx
    exact Does.int fun Q q => ⟨i, rfl, q⟩
theorem op_fdiv' {X : Cx} : OpR X (binaryOp .FloorDiv) (fun x y H Q => (rI CDiv fun i j => .int (i / j)) x y H Q ∨ (rI CDivW fun i j => .int (i / j)) x y H Q) := op_fdiv.or op_fdivW
def rMul : R2 := fun x y H Q => (rI CMul fun i j => .int (i * j)) x y H Q ∨ (rI CMulW fun i j => .int (i * j)) x y H Q ∨ rRep x y H Q
theorem op_mul' {X : Cx} : OpR X (binaryOp .Mult) rMul := op_mul.or (op_mulW.or op_rep)
def gMul : D → D → Option OutV := fun x y => match x, y with
  | .int i, .int j => if CMul i j ∨ CMulW i j then some (.it (.int (i * j))) else none
  | _, _ => none
theorem op2_mul : Op2 rMul gMul := by
  intro S H x y dx dy o hx hy h
  match dx, dy, h with
  | .int i, .int j, h =>
    obtain ⟨hc, rfl⟩ := guard_of (show (if CMul i j ∨ CMulW i j then some (OutV.it (.int (i * j))) else none) = some o from h)
    cases top_int hx
    cases top_int hy
    exact Does.int fun Q q => hc.elim (fun hc => .inl ⟨i, j, rfl, rfl, hc, q⟩) fun hc => .inr (.inl ⟨i, j, rfl, rfl, hc, q⟩)
/-- a new list times an int -/
def frep (fa fb : Fe) : Fe := fun ρ => (fa ρ).bind fun x => (fb x.2).bind fun y => (dat y.2 y.1).bind fun db => match x.1, db with
  | .fr (.list xs), .int k => if -(2 ^ 63) ≤ k ∧ k < 2 ^ 63 ∧ xs.length * k.toNat ≤ 16777216 then some (.fr (.list (List.replicate k.toNat xs).flatten), y.2) else none
  | _, _ => none
theorem de_rep {X : Cx} {a b : Expr} {fa fb : Fe} {pos : Pos} (ha : DE X a fa) (hb : DE X b fb) : DE X (.BinOp a .Mult b pos) (frep fa fb) := by
  intro P T σ ρ H rv ρ' S hf Q q
  simp only [frep, Option.bind_eq_some_iff] at hf
  obtain ⟨⟨ra, ρ1⟩, h1, ⟨rb, ρ2⟩, h2, db, h4, h5⟩ := hf
  match ra, db, h1, h4, h5 with
  | .fr (.list xs), .int k, h1, h4, h5 =>
    obtain ⟨hc, h6⟩ := guard_of (show (if -(2 ^ 63) ≤ k ∧ k < 2 ^ 63 ∧ xs.length * k.toNat ≤ 16777216 then some (RV.fr (.list (List.replicate k.toNat xs).flatten), ρ2) else none) = some (rv, ρ') from h5)
    cases h6
    refine PE.we (pe_op op_rep peW peW) (ha P T σ ρ H _ ρ1 S h1 _ fun v H1 T1 A1 => hb P T1 σ ρ1 H1 rb _ A1.sim h2 _ fun w H2 T2 A2 => ?_)
    have V1 := A1.val.step A1.sim A2.stp A2.kp A2.tx.tg
    obtain ⟨a', o', e1, ta, hHa, hn, hr⟩ := V1
    subst e1
    cases hr with
    | @lst us _ hr =>
    cases top_int (A2.val.top A2.sim h4)
    refine does_fin (o := .nl (List.replicate k.toNat xs).flatten) (w := fun Q => rRep (.ref a') (.int k) H2 Q) A2.sim (A1.stp.trans A2.stp) (A1.kp.trans A2.kp) (A1.tx.tg.trans A2.tx.tg A1.stp.dm) ⟨(List.replicate k.toNat us).flatten, hr.rep k.toNat, fun Q hq => ?_⟩ q
    exact ⟨a', k, us, rfl, rfl, hHa, hc.1, hc.2.1, by rw [hr.length]; exact line_le hc.2.2, hq⟩
end DL
set_option Elab.async false
set_option linter.all false
set_option maxRecDepth 100000
set_option maxHeartbeats 2000000
namespace DL
open PySem PySem.Spec PyProof.Rows L2
mutual
theorem Rep.dp {S : Addr → Prop} {K : PySem.W.Frag} {H : Hp} : ∀ (d : D) (v : V), PyData.canLay0 d = true → Rep S H v d → Dp K H v d
  | .none, _, _, r => by cases r; exact .non
  | .bool b, _, _, r => by cases r; exact .bl b
  | .int i, _, _, r => by cases r; exact .int i
  | .str x, _, _, r => by cases r; exact .str x
  | .list ds, _, c, r => by cases r with | lst h1 h2 h3 => exact .lst (.inl h2) (RepA.dp ds _ (by simpa only [PyData.canLay0] using c) h3)
  | .tuple ds, _, c, r => by cases r with | tup h1 h2 h3 => exact .tup (.inl (.inl h2)) (RepA.dp ds _ (by simpa only [PyData.canLay0] using c) h3)
  | .dict _, _, c, r => by simp only [PyData.canLay0] at c; cases c
theorem RepA.dp {S : Addr → Prop} {K : PySem.W.Frag} {H : Hp} : ∀ (ds : List D) (vs : List V), PyData.canLayAll0 ds = true → RepA S H vs ds → DpAll K H vs ds
  | [], _, _, r => by cases r; exact .nil
  | d :: ds, _, c, r => by
    simp only [PyData.canLayAll0, Bool.and_eq_true] at c
    cases r with | cons r1 r2 => exact .cons (Rep.dp d _ c.1 r1) (RepA.dp ds _ c.2 r2)
end
theorem Top.dp {S : Addr → Prop} {K : PySem.W.Frag} {H : Hp} {v : V} {d : D} (hs : SeqAt.shaped d = true) (h : Top S H v d) : Dp K H v d := by
  have c := SeqAt.canLay_of_shaped hs
  cases d with
  | list ds =>
    obtain ⟨a, xs, rfl, h2, h3⟩ := top_lst h
    exact .lst (.inl h2) (RepA.dp ds _ (by simpa only [PyData.canLay0] using c) h3)
  | dict _ => simp only [PyData.canLay0] at c; cases c
  | _ => exact Rep.dp _ _ c h
/-- is == told here: flat data by itself, else by the shape -/
def eqDD (x y : D) : Option Bool := match x, y with
  | .int i, .int j => some (decide (i = j))
  | .bool i, .bool j => some (decide (i = j))
  | .none, .none => some true
  | .str i, .str j => some (decide (i = j))
  | x, y => if SeqAt.shaped x && SeqAt.shaped y then some (PyData.eqv x y) else none
def gEq : D → D → Option OutV := fun x y => (eqDD x y).map fun b => .it (.bool b)
def gNe : D → D → Option OutV := fun x y => (eqDD x y).map fun b => .it (.bool (!b))
def rEqA (K : PySem.W.Frag) : R2 := fun x y H Q => rEq x y H Q ∨ rEqD K x y H Q
def rNeA (K : PySem.W.Frag) : R2 := fun x y H Q => rNe x y H Q ∨ rNeD K x y H Q
theorem op_eqA {X : Cx} (hu : X.A.units + 64 < cLine) : OpR X (compareOp .Eq) (rEqA X.K) := op_eq.or (op_eqD hu)
theorem op_neA {X : Cx} (hu : X.A.units + 64 < cLine) : OpR X (compareOp .NotEq) (rNeA X.K) := op_ne.or (op_neD hu)
theorem eqDD_spec {S : Addr → Prop} {K : PySem.W.Frag} {H : Hp} {x y : V} {dx dy : D} {b : Bool} (hx : Top S H x dx) (hy : Top S H y dy) (h : eqDD dx dy = some b) :
    (scal x y = true ∧ decide (x = y) = b) ∨ (Dp K H x dx ∧ Dp K H y dy ∧ SeqAt.shaped dx = true ∧ SeqAt.shaped dy = true ∧ PyData.eqv dx dy = b) := by
  have gen : (if SeqAt.shaped dx && SeqAt.shaped dy then some (PyData.eqv dx dy) else none) = some b → (scal x y = true ∧ decide (x = y) = b) ∨ (Dp K H x dx ∧ Dp K H y dy ∧ SeqAt.shaped dx = true ∧ SeqAt.shaped dy = true ∧ PyData.eqv dx dy = b) := fun h => by
    obtain ⟨hc, rfl⟩ := guard_of h
    rw [Bool.and_eq_true] at hc
    exact .inr ⟨hx.dp hc.1, hy.dp hc.2, hc.1, hc.2, rfl⟩
  unfold eqDD at h
  split at h
  · cases h; cases top_int hx; cases top_int hy; exact .inl ⟨rfl, by simp⟩
  · cases h; cases top_bool hx; cases top_bool hy; exact .inl ⟨rfl, by simp⟩
  · cases h; cases top_none hx; cases top_none hy; exact .inl ⟨rfl, by simp⟩
  · cases h; cases top_str hx; cases top_str hy; exact .inl ⟨rfl, by simp⟩
  · exact gen h
theorem op2_eq {K : PySem.W.Frag} : Op2 (rEqA K) gEq := by
  intro S H x y dx dy o hx hy h
  simp only [gEq, Option.map_eq_some_iff] at h
  obtain ⟨b, h1, rfl⟩ := h
  refine Does.bl fun Q q => ?_
  rcases eqDD_spec (K := K) hx hy h1 with ⟨z1, z2⟩ | ⟨z1, z2, z3, z4, z5⟩
  · exact .inl ⟨z1, by rw [z2]; exact q⟩
  · exact .inr ⟨dx, dy, z1, z2, z3, z4, by rw [z5]; exact q⟩
theorem op2_ne {K : PySem.W.Frag} : Op2 (rNeA K) gNe := by
  intro S H x y dx dy o hx hy h
  simp only [gNe, Option.map_eq_some_iff] at h
  obtain ⟨b, h1, rfl⟩ := h
  refine Does.bl fun Q q => ?_
  rcases eqDD_spec (K := K) hx hy h1 with ⟨z1, z2⟩ | ⟨z1, z2, z3, z4, z5⟩
  · exact .inl ⟨z1, by rw [z2]; exact q⟩
  · exact .inr ⟨dx, dy, z1, z2, z3, z4, by rw [z5]; exact q⟩
def isNone : D → Bool
  | .none => true
  | _ => false
/-- is, beside None, True, False -/
def gIs : D → D → Option OutV := fun x y => match y with
  | .none => some (.it (.bool (isNone x)))
  | .bool b => match x with
    | .bool a => some (.it (.bool (decide (a = b))))
    | _ => none
  | _ => none
def rIsA : R2 := fun x y H Q => (y = .non ∧ Q (.bl (decide (x = .non))) H) ∨ rIsB x y H Q
theorem op_isA {X : Cx} : OpR X (compareOp .Is) rIsA := op_isN.or op_isBl
theorem top_non {S : Addr → Prop} {H : Hp} {x : V} {d : D} (h : Top S H x d) : decide (x = .non) = isNone d := by
  cases d with
  | none => cases top_none h; rfl
  | bool b => cases top_bool h; rfl
  | int i => cases top_int h; rfl
  | str s => cases top_str h; rfl
  | list ds => obtain ⟨a, xs, rfl, _⟩ := top_lst h; rfl
  | tuple ds => obtain ⟨a, xs, rfl, _⟩ := top_tup h; rfl
  | dict ds => obtain ⟨a, rfl, _⟩ := (show ∃ a, x = .ref a ∧ (isX ds = false → ∃ o ps, RdK H a o ∧ dOf o = some ps ∧ RepK S H ps ds) ∧ (isX ds = true → isOb (.dict ds) = false → Rep S H (.ref a) (.dict ds)) from h); rfl
theorem op2_is : Op2 rIsA gIs := by
  intro S H x y dx dy o hx hy h
  match dy, h with
  | .none, h =>
    cases h
    cases top_none hy
    exact Does.bl fun Q q => .inl ⟨rfl, by rw [top_non hx]; exact q⟩
  | .bool b, h =>
    match dx, h with
    | .bool a, h =>
      cases h
      cases top_bool hx
      cases top_bool hy
      exact Does.bl fun Q q => .inr ⟨a, b, rfl, rfl, q⟩
def gIx : D → D → Option OutV := fun x y => match x, y with
  | .list ds, .int i => (atI ds i).map .it
  | .tuple ds, .int i => (atI ds i).map .it
  | _, _ => none
theorem atI_rep {S : Addr → Prop} {H : Hp} {vs : List V} {ds : List D} {i : Int} {d : D} (r : RepA S H vs ds) (h : atI ds i = some d) : ∃ v, atI vs i = some v ∧ Rep S H v d := by
  unfold atI at h ⊢
  rw [r.length]
  cases e : ixN ds.length i with
  | none => rw [e] at h; cases h
  | some j =>
    rw [e] at h
    exact r.get' h
theorem op2_ix {K : PySem.W.Frag} : Op2 (rIx K) gIx := by
  intro S H x y dx dy o hx hy h
  match dx, dy, h with
  | .list ds, .int i, h =>
    have h : (atI ds i).map OutV.it = some o := h
    simp only [Option.map_eq_some_iff] at h
    obtain ⟨d, h1, rfl⟩ := h
    obtain ⟨a, xs, rfl, h2, h3⟩ := top_lst hx
    cases top_int hy
    obtain ⟨v, h4, h5⟩ := atI_rep h3 h1
    exact ⟨v, h5, fun Q q => .inl ⟨a, xs, i, v, rfl, rfl, .inl h2, h4, q⟩⟩
  | .tuple ds, .int i, h =>
    have h : (atI ds i).map OutV.it = some o := h
    simp only [Option.map_eq_some_iff] at h
    obtain ⟨d, h1, rfl⟩ := h
    obtain ⟨a, xs, rfl, h2, h3⟩ := top_tup hx
    cases top_int hy
    obtain ⟨v, h4, h5⟩ := atI_rep h3 h1
    exact ⟨v, h5, fun Q q => .inr (.inl ⟨a, xs, i, v, rfl, rfl, .inl h2, h4, q⟩)⟩
def cutD (xs : List D) (lo hi : Option Int) : List D := (xs.drop (HT.sIx xs.length 0 lo)).take (HT.sIx xs.length xs.length hi - HT.sIx xs.length 0 lo)
def gSl (x : D) (lo hi : Option Int) : Option OutV := match x with
  | .list ds => some (.nl (cutD ds lo hi))
  | .tuple ds => if HT.sIx ds.length 0 lo = 0 ∧ HT.sIx ds.length ds.length hi = ds.length then some (.it (.tuple ds)) else some (.nt (cutD ds lo hi))
  | _ => none
theorem cut_rep {S : Addr → Prop} {H : Hp} {vs : List V} {ds : List D} {lo hi : Option Int} (r : RepA S H vs ds) : RepA S H (cutV vs lo hi) (cutD ds lo hi) := by
  unfold cutV cutD
  rw [r.length]
  exact (r.drop _).take _
def rSlB (K : PySem.W.Frag) : V → Option Int → Option Int → Hp → VK → Prop := fun x lo hi H Q => rSlL K x lo hi H Q ∨ rSlA K x lo hi H Q
theorem sl_B {X : Cx} : SlR X (rSlB X.K) := sl_list.or sl_tupA
theorem sl_spec {K : PySem.W.Frag} {S : Addr → Prop} {H : Hp} {x : V} {dx : D} {lo hi : Option Int} {o : OutV} (hx : Top S H x dx) (h : gSl dx lo hi = some o) : Does S H o (rSlB K x lo hi H) := by
  match dx, h with
  | .list ds, h =>
    cases h
    obtain ⟨a, xs, rfl, h2, h3⟩ := top_lst hx
    exact ⟨_, cut_rep h3, fun Q q => .inl ⟨a, xs, rfl, .inl h2, q⟩⟩
  | .tuple ds, h =>
    obtain ⟨a, xs, rfl, h2, h3⟩ := top_tup hx
    have h : (if HT.sIx ds.length 0 lo = 0 ∧ HT.sIx ds.length ds.length hi = ds.length then some (OutV.it (.tuple ds)) else some (.nt (cutD ds lo hi))) = some o := h
    by_cases hw : HT.sIx ds.length 0 lo = 0 ∧ HT.sIx ds.length ds.length hi = ds.length
    · rw [if_pos hw] at h; cases h
      exact ⟨_, top_tupR hx, fun Q q => .inr ⟨a, xs, rfl, .inl h2, fun _ => q, fun z => (z (by rw [h3.length]; exact hw)).elim⟩⟩
    · rw [if_neg hw] at h; cases h
      exact ⟨_, cut_rep h3, fun Q q => .inr ⟨a, xs, rfl, .inl h2, fun z => (hw (by rw [← h3.length]; exact z)).elim, fun _ => q⟩⟩
/-- an end of a slice -/
abbrev Fo := En → Option (Option Int × En)
def fonone : Fo := fun ρ => some (none, ρ)
def fosome (f : Fe) : Fo := fun ρ => (f ρ).bind fun x => match dat x.2 x.1 with
  | some (.int i) => some (some i, x.2)
  | _ => none
def WO (X : Cx) (e : Option Expr) (σ : SS) (H : Hp) (Q : Option Int → Hp → Prop) : Prop := ∃ t, PO X e t ∧ t σ H Q
theorem poW {X : Cx} {e : Option Expr} : PO X e (WO X e) := ⟨fun pins s σ H Q I ⟨t, ht, h⟩ => ht.run pins s σ H Q I h⟩
def DO (X : Cx) (e : Option Expr) (f : Fo) : Prop :=
  ∀ P T σ ρ H i ρ', Sim P T σ ρ H → f ρ = some (i, ρ') → ∀ Q : Option Int → Hp → Prop, (∀ H', Sim P T σ ρ' H' → Stp σ ρ H σ ρ' H' → Kp ρ ρ' → Q i H') → WO X e σ H Q
def fslice (f : Fe) (lo hi : Fo) : Fe := fun ρ => (f ρ).bind fun x => (lo x.2).bind fun y => (hi y.2).bind fun z => (dat z.2 x.1).bind fun d => (gSl d y.1 z.1).map fun o => (rvOf o, z.2)
section
variable {X : Cx} {e : Expr} {fe : Fe} {lo hi : Option Expr} {fl fh : Fo} {pos p2 : Pos}
theorem do_none : DO X none fonone := fun P T σ ρ H i ρ' S hf Q q => by
  cases hf
  exact ⟨_, po_none, q H S .refl .refl⟩
theorem do_some (h : DE X e fe) : DO X (some e) (fosome fe) := fun P T σ ρ H i ρ' S hf Q q => by
  simp only [fosome, Option.bind_eq_some_iff] at hf
  obtain ⟨⟨r, ρ1⟩, e1, e2⟩ := hf
  cases e3 : dat ρ1 r with
  | none => simp only [e3] at e2; cases e2
  | some d =>
    cases d with
    | int k =>
      simp only [e3] at e2
      cases e2
      refine ⟨_, po_some peW, h P T σ ρ H r _ S e1 _ fun v H1 T1 A => ?_⟩
      cases top_int (A.val.top A.sim e3)
      exact ⟨k, rfl, q H1 (A.sim.less A.tx.tg.1) A.stp A.kp⟩
    | _ => simp only [e3] at e2; cases e2
theorem de_slice (he : DE X e fe) (hl : DO X lo fl) (hh : DO X hi fh) : DE X (.Subscript e (.Slice lo hi none p2) pos) (fslice fe fl fh) := by
  intro P T σ ρ H rv ρ' S hf Q q
  simp only [fslice, Option.bind_eq_some_iff, Option.map_eq_some_iff] at hf
  obtain ⟨⟨r, ρ1⟩, e1, ⟨i, ρ2⟩, e2, ⟨j, ρ3⟩, e3, d, e4, o, e5, e6⟩ := hf
  cases e6
  refine PE.we (pe_slice sl_B peW poW poW) (he P T σ ρ H r ρ1 S e1 _ fun v H1 T1 A => hl P T1 σ ρ1 H1 i ρ2 A.sim e2 _ fun H2 S2 st2 kp2 => hh P T1 σ ρ2 H2 j _ S2 e3 _ fun H3 S3 st3 kp3 => ?_)
  have V3 := A.val.step A.sim (st2.trans st3) (kp2.trans kp3) .refl
  exact does_fin S3 (A.stp.trans (st2.trans st3)) (A.kp.trans (kp2.trans kp3)) A.tx.tg (sl_spec (V3.top S3 e4) e5) q
end
end DL
set_option Elab.async false
set_option linter.all false
set_option maxRecDepth 100000
set_option maxHeartbeats 2000000
namespace DL
open PySem PySem.Spec PyProof.Rows L2
theorem topA1 {S : Addr → Prop} {H : Hp} {xs : List V} {d : D} (h : TopA S H xs [d]) : ∃ x, xs = [x] ∧ Top S H x d := by
  cases h with
  | cons h1 h2 => cases h2; exact ⟨_, rfl, h1⟩
theorem topA2 {S : Addr → Prop} {H : Hp} {xs : List V} {d e : D} (h : TopA S H xs [d, e]) : ∃ x y, xs = [x, y] ∧ Top S H x d ∧ Top S H y e := by
  cases h with
  | cons h1 h2 =>
    cases h2 with
    | cons h2 h3 => cases h3; exact ⟨_, _, rfl, h1, h2⟩
def gLen : List D → Option OutV
  | [.list ds] => some (.it (.int (ds.length : Nat)))
  | [.tuple ds] => some (.it (.int (ds.length : Nat)))
  | [.str x] => if x.length ≤ 16777216 then some (.it (.int (x.length : Nat))) else none
  | _ => none
def rLen (K : PySem.W.Frag) : List V → Hp → VK → Prop := fun xs H Q => ∃ x n, xs = [x] ∧ LenV K x H n ∧ Q (.int n) H
theorem opA_len {K : PySem.W.Frag} : OpA (rLen K) gLen := by
  intro S H xs ds o hx h
  match ds, h with
  | [.list es], h =>
    cases h
    obtain ⟨x, rfl, ht⟩ := topA1 hx
    obtain ⟨a, us, rfl, h1, h2⟩ := top_lst ht
    exact Does.int fun Q q => ⟨_, us.length, rfl, .inl ⟨us, .inl h1, rfl⟩, by rw [h2.length]; exact q⟩
  | [.tuple es], h =>
    cases h
    obtain ⟨x, rfl, ht⟩ := topA1 hx
    obtain ⟨a, us, rfl, h1, h2⟩ := top_tup ht
    exact Does.int fun Q q => ⟨_, us.length, rfl, .inr ⟨us, .inl h1, rfl⟩, by rw [h2.length]; exact q⟩
  | [.str y], h =>
    obtain ⟨hc, rfl⟩ := guard_of (show (if y.length ≤ 16777216 then some (OutV.it (.int (y.length : Nat))) else none) = some o from h)
    obtain ⟨x, rfl, ht⟩ := topA1 hx
    cases top_str ht
    exact Does.int fun Q q => ⟨_, y.length, rfl, ⟨line_le hc, rfl⟩, q⟩
def gList : List D → Option OutV
  | [.list ds] => some (.nl ds)
  | [.tuple ds] => some (.nl ds)
  | _ => none
def rListOf (K : PySem.W.Frag) : List V → Hp → VK → Prop := fun xs H Q => ∃ p ys, xs = [.ref p] ∧ (SqL K H p ys ∨ SqT K H p ys) ∧ ∀ l, H l = none → Q (.ref l) (upd H l (.lst ys))
theorem opA_list {K : PySem.W.Frag} : OpA (rListOf K) gList := by
  intro S H xs ds o hx h
  match ds, h with
  | [.list es], h =>
    cases h
    obtain ⟨x, rfl, ht⟩ := topA1 hx
    obtain ⟨a, us, rfl, h1, h2⟩ := top_lst ht
    exact ⟨us, h2, fun Q q => ⟨a, us, rfl, .inl (.inl h1), q⟩⟩
  | [.tuple es], h =>
    cases h
    obtain ⟨x, rfl, ht⟩ := topA1 hx
    obtain ⟨a, us, rfl, h1, h2⟩ := top_tup ht
    exact ⟨us, h2, fun Q q => ⟨a, us, rfl, .inr (.inl h1), q⟩⟩
def gTuple : List D → Option OutV
  | [.list ds] => some (.nt ds)
  | [.tuple ds] => some (.it (.tuple ds))
  | _ => none
def rTupleOf (K : PySem.W.Frag) : List V → Hp → VK → Prop := fun xs H Q => ∃ p ys, xs = [.ref p] ∧ ((SqL K H p ys ∧ ∀ l, H l = none → Q (.ref l) (upd H l (.tup ys))) ∨ (SqT K H p ys ∧ Q (.ref p) H))
theorem opA_tuple {K : PySem.W.Frag} : OpA (rTupleOf K) gTuple := by
  intro S H xs ds o hx h
  match ds, h with
  | [.list es], h =>
    cases h
    obtain ⟨x, rfl, ht⟩ := topA1 hx
    obtain ⟨a, us, rfl, h1, h2⟩ := top_lst ht
    exact ⟨us, h2, fun Q q => ⟨a, us, rfl, .inl ⟨.inl h1, q⟩⟩⟩
  | [.tuple es], h =>
    cases h
    obtain ⟨x, rfl, ht⟩ := topA1 hx
    obtain ⟨a, us, rfl, h1, h2⟩ := top_tup ht
    exact ⟨_, top_tupR ht, fun Q q => ⟨a, us, rfl, .inr ⟨.inl h1, q⟩⟩⟩
def boolsOf : List D → Option (List Bool)
  | [] => some []
  | .bool b :: ds => (boolsOf ds).map (b :: ·)
  | _ => none
def intsOf : List D → Option (List Int)
  | [] => some []
  | .int i :: ds => (intsOf ds).map (i :: ·)
  | _ => none
theorem boolsOf_spec : ∀ {ds : List D} {bs : List Bool}, boolsOf ds = some bs → ds = bs.map .bool
  | [], bs, h => by cases h; rfl
  | .bool b :: ds, bs, h => by
    simp only [boolsOf, Option.map_eq_some_iff] at h
    obtain ⟨cs, h1, rfl⟩ := h
    rw [boolsOf_spec h1]; rfl
  | .none :: _, _, h => by cases h
  | .int _ :: _, _, h => by cases h
  | .str _ :: _, _, h => by cases h
  | .list _ :: _, _, h => by cases h
  | .tuple _ :: _, _, h => by cases h
  | .dict _ :: _, _, h => by cases h
theorem intsOf_spec : ∀ {ds : List D} {bs : List Int}, intsOf ds = some bs → ds = bs.map .int
  | [], bs, h => by cases h; rfl
  | .int b :: ds, bs, h => by
    simp only [intsOf, Option.map_eq_some_iff] at h
    obtain ⟨cs, h1, rfl⟩ := h
    rw [intsOf_spec h1]; rfl
  | .none :: _, _, h => by cases h
  | .bool _ :: _, _, h => by cases h
  | .str _ :: _, _, h => by cases h
  | .list _ :: _, _, h => by cases h
  | .tuple _ :: _, _, h => by cases h
  | .dict _ :: _, _, h => by cases h
theorem RepA.bools {S : Addr → Prop} {H : Hp} : ∀ {vs : List V} {ns : List Bool}, RepA S H vs (ns.map .bool) → vs = ns.map V.bl
  | _, [], r => by cases r; rfl
  | _, n :: ns, r => by
    cases r with
    | cons r1 r2 => cases r1; rw [RepA.bools r2]; rfl
def gAll : List D → Option OutV
  | [.list ds] => (boolsOf ds).map fun bs => .it (.bool (bs.all id))
  | _ => none
theorem opA_all {K : PySem.W.Frag} : OpA (rAll K) gAll := by
  intro S H xs ds o hx h
  match ds, h with
  | [.list es], h =>
    simp only [gAll, Option.map_eq_some_iff] at h
    obtain ⟨bs, h1, rfl⟩ := h
    obtain ⟨x, rfl, ht⟩ := topA1 hx
    obtain ⟨a, us, rfl, h2, h3⟩ := top_lst ht
    rw [boolsOf_spec h1] at h3
    exact Does.bl fun Q q => ⟨a, bs, rfl, by rw [← h3.bools]; exact .inl h2, q⟩
def maxI : List Int → Int
  | [] => 0
  | [i] => i
  | i :: j :: js => max i (maxI (j :: js))
theorem maxI_spec : ∀ (ns : List Int) (m : Int), m ∈ ns → (∀ y ∈ ns, y ≤ m) → m = maxI ns
  | [], m, h, _ => by cases h
  | [i], m, h, _ => by simp at h; exact h
  | i :: j :: js, m, h, hm => by
    have key : ∀ (ks : List Int), ks ≠ [] → maxI ks ∈ ks ∧ ∀ y ∈ ks, y ≤ maxI ks := by
      intro ks
      induction ks with
      | nil => intro h; exact absurd rfl h
      | cons k ks ih =>
        intro _
        cases ks with
        | nil => simp [maxI]
        | cons l ls =>
          obtain ⟨a1, a2⟩ := ih (by simp)
          simp only [maxI]
          refine ⟨?_, fun y hy => ?_⟩
          · rcases Int.le_total k (maxI (l :: ls)) with z | z
            · rw [Int.max_eq_right z]; exact List.mem_cons_of_mem _ a1
            · rw [Int.max_eq_left z]; exact List.mem_cons_self
          · rcases List.mem_cons.mp hy with rfl | hy
            · omega
            · have := a2 y hy; omega
    obtain ⟨k1, k2⟩ := key (i :: j :: js) (by simp)
    have := hm _ k1
    have := k2 m h
    omega
def gMax : List D → Option OutV
  | [.int i, .int j] => some (.it (.int (max i j)))
  | [.list ds] => match intsOf ds with
    | some (n :: ns) => some (.it (.int (maxI (n :: ns))))
    | _ => none
  | _ => none
def rMaxA (K : PySem.W.Frag) : List V → Hp → VK → Prop := fun xs H Q => (∃ i j, xs = [.int i, .int j] ∧ Q (.int (if j > i then j else i)) H) ∨ rMax K xs H Q
theorem call_maxA {X : Cx} (hc : X.calm = true) : CallR X (.builtin "max") (rMaxA X.K) := (call_max2 hc).or (cr_max hc)
theorem opA_max {K : PySem.W.Frag} : OpA (rMaxA K) gMax := by
  intro S H xs ds o hx h
  match ds, h with
  | [.int i, .int j], h =>
    cases h
    obtain ⟨x, y, rfl, h1, h2⟩ := topA2 hx
    cases top_int h1
    cases top_int h2
    refine Does.int fun Q q => .inl ⟨i, j, rfl, ?_⟩
    have : (if j > i then j else i) = max i j := by split <;> omega
    rw [this]; exact q
  | [.list es], h =>
    simp only [gMax] at h
    cases e : intsOf es with
    | none => rw [e] at h; cases h
    | some ns =>
      cases ns with
      | nil => rw [e] at h; cases h
      | cons n ns =>
        rw [e] at h; cases h
        obtain ⟨x, rfl, ht⟩ := topA1 hx
        obtain ⟨a, us, rfl, h2, h3⟩ := top_lst ht
        rw [intsOf_spec e] at h3
        exact Does.int fun Q q => .inr ⟨a, n :: ns, rfl, by rw [← h3.ints]; exact .inl h2, by simp, fun m hm hy => by rw [maxI_spec _ m hm hy]; exact q⟩
def gAbs : List D → Option OutV
  | [.int i] => some (.it (.int (if i < 0 then -i else i)))
  | _ => none
theorem opA_abs : OpA (fun xs H Q => ∃ i, xs = [.int i] ∧ Q (.int (if i < 0 then -i else i)) H) gAbs := by
  intro S H xs ds o hx h
  match ds, h with
  | [.int i], h =>
    cases h
    obtain ⟨x, rfl, h1⟩ := topA1 hx
    cases top_int h1
    exact Does.int fun Q q => ⟨i, rfl, q⟩
def gInt : List D → Option OutV
  | [.int i] => some (.it (.int i))
  | [.bool b] => some (.it (.int (if b then 1 else 0)))
  | _ => none
theorem opA_int : OpA (fun xs H Q => (∃ i, xs = [.int i] ∧ Q (.int i) H) ∨ ∃ k, xs = [.bl k] ∧ Q (.int (if k then 1 else 0)) H) gInt := by
  intro S H xs ds o hx h
  match ds, h with
  | [.int i], h =>
    cases h
    obtain ⟨x, rfl, h1⟩ := topA1 hx
    cases top_int h1
    exact Does.int fun Q q => .inl ⟨i, rfl, q⟩
  | [.bool i], h =>
    cases h
    obtain ⟨x, rfl, h1⟩ := topA1 hx
    cases top_bool h1
    exact Does.int fun Q q => .inr ⟨i, rfl, q⟩
def flrg1 (f : Fe) : Fe := fun ρ => (f ρ).bind fun x => match dat x.2 x.1 with
  | some (.int n) => if -(2 ^ 62) ≤ n ∧ n ≤ 16777216 then some (.fr (.list (rgD 0 1 n.toNat)), x.2) else none
  | _ => none
theorem rgV_rep {S : Addr → Prop} {H : Hp} {a b : Int} : RepA S H (rgV a b) (rgD a 1 (b - a).toNat) := by
  have e : rgD a 1 (b - a).toNat = ((List.range (b - a).toNat).map fun i : Nat => a + (i : Int)).map .int := by
    unfold rgD
    rw [List.map_map]
    refine List.map_congr_left fun i _ => ?_
    simp
  have e2 : rgV a b = ((List.range (b - a).toNat).map fun i : Nat => a + (i : Int)).map V.int := by
    unfold rgV
    rw [List.map_map]
    rfl
  rw [e, e2]
  exact RepA.of_ints _
theorem de_lrg1 {X : Cx} {a : Expr} {fe : Fe} {p pos p2 pos2 : Pos} (hc : X.calm = true) (hg : Gl X "list") (hm : X.mg "list" = none) (hg2 : Gl X "range") (hm2 : X.mg "range" = none) (ha : DE X a fe) (na : starEach [a] X.env = (false, eval a X.env) :: starEach [] X.env := by rfl)
    (na2 : starEach [.Call (.Name "range" p2) [a] [] pos2] X.env = (false, eval (.Call (.Name "range" p2) [a] [] pos2) X.env) :: starEach [] X.env := by rfl) : DE X (.Call (.Name "list" p) [.Call (.Name "range" p2) [a] [] pos2] [] pos) (flrg1 fe) := by
  intro P T σ ρ H rv ρ' S hf Q q
  simp only [flrg1, Option.bind_eq_some_iff] at hf
  obtain ⟨⟨r, ρ1⟩, e1, e2⟩ := hf
  cases e3 : dat ρ1 r with
  | none => simp only [e3] at e2; cases e2
  | some d =>
    cases d with
    | int n =>
      simp only [e3] at e2
      obtain ⟨hn, e4⟩ := guard_of e2
      cases e4
      refine PE.we (pe_listRg hc hg hm (prg_1 hg2 hm2 peW na) na2) (ha P T σ ρ H r _ S e1 _ fun v H1 T1 A => ?_)
      cases top_int (A.val.top A.sim e3)
      refine ⟨n, rfl, ⟨by omega, by omega, by omega, by omega, by omega⟩, fun p hp => ?_⟩
      exact does_fin (o := .nl (rgD 0 1 n.toNat)) (w := fun Q => ∀ p, H1 p = none → Q (.ref p) (upd H1 p (.lst (rgV 0 n)))) A.sim A.stp A.kp A.tx.tg ⟨rgV 0 n, by have := rgV_rep (S := Av P T1 σ ρ') (H := H1) (a := 0) (b := n); rwa [Int.sub_zero] at this, fun Q hq => hq⟩ q p hp
    | _ => simp only [e3] at e2; cases e2
def flrg2 (f f2 : Fe) : Fe := fun ρ => (f ρ).bind fun x => (f2 x.2).bind fun y => match dat y.2 x.1, dat y.2 y.1 with
  | some (.int m), some (.int n) => if 0 ≤ m ∧ m ≤ 16777216 ∧ -(2 ^ 62) ≤ n ∧ n ≤ 16777216 then some (.fr (.list (rgD m 1 (n - m).toNat)), y.2) else none
  | _, _ => none
theorem de_lrg2 {X : Cx} {a b : Expr} {fe f2 : Fe} {p pos p2 pos2 : Pos} (hc : X.calm = true) (hg : Gl X "list") (hm : X.mg "list" = none) (hg2 : Gl X "range") (hm2 : X.mg "range" = none) (ha : DE X a fe) (hb : DE X b f2) (na : starEach [a, b] X.env = (false, eval a X.env) :: starEach [b] X.env := by rfl) (nb : starEach [b] X.env = (false, eval b X.env) :: starEach [] X.env := by rfl) (npl : (backTo pos2 (starEach [b] X.env)).any (·.1) = false := by rfl)
    (na2 : starEach [.Call (.Name "range" p2) [a, b] [] pos2] X.env = (false, eval (.Call (.Name "range" p2) [a, b] [] pos2) X.env) :: starEach [] X.env := by rfl) : DE X (.Call (.Name "list" p) [.Call (.Name "range" p2) [a, b] [] pos2] [] pos) (flrg2 fe f2) := by
  intro P T σ ρ H rv ρ' S hf Q q
  simp only [flrg2, Option.bind_eq_some_iff] at hf
  obtain ⟨⟨r, ρ1⟩, e1, ⟨r2, ρ2⟩, e0, e2⟩ := hf
  split at e2
  · rename_i m n e3 e4
    obtain ⟨hn, e5⟩ := guard_of e2
    cases e5
    refine PE.we (pe_listRg hc hg hm (prg_2 hg2 hm2 peW peW na nb npl) na2) (ha P T σ ρ H r _ S e1 _ fun v H1 T1 A1 => hb P T1 σ ρ1 H1 r2 _ A1.sim e0 _ fun u H2 T2 A2 => ?_)
    have V1 := A1.val.step A1.sim A2.stp A2.kp A2.tx.tg
    cases top_int (V1.top A2.sim e3)
    cases top_int (A2.val.top A2.sim e4)
    refine ⟨m, n, rfl, rfl, ⟨by omega, by omega, by omega, by omega, by omega⟩, fun p hp => ?_⟩
    exact does_fin (o := .nl (rgD m 1 (n - m).toNat)) (w := fun Q => ∀ p, H2 p = none → Q (.ref p) (upd H2 p (.lst (rgV m n)))) A2.sim (A1.stp.trans A2.stp) (A1.kp.trans A2.kp) (A1.tx.tg.trans A2.tx.tg A1.stp.dm) ⟨rgV m n, rgV_rep, fun Q hq => hq⟩ q p hp
  · cases e2
def tyD : D → String
  | .none => "NoneType"
  | .bool _ => "bool"
  | .int _ => "int"
  | .str _ => "str"
  | .list _ => "list"
  | .tuple _ => "tuple"
  | .dict _ => "dict"
def isXD : D → Bool
  | .dict es => isX es
  | _ => false
theorem top_ty {S : Addr → Prop} {K : PySem.W.Frag} {H : Hp} {x : V} {d : D} (h : Top S H x d) (nx : isXD d = false) : TyX K H x (.type (tyD d)) := by
  cases d with
  | none => cases top_none h; exact .base .non
  | bool b => cases top_bool h; exact .base (.bl b)
  | int i => cases top_int h; exact .base (.int i)
  | str s => cases top_str h; exact .base (.str s)
  | list ds =>
    obtain ⟨a, xs, rfl, h1, _⟩ := top_lst h
    rcases h1 with h1 | ⟨o, h1⟩
    · exact .base (.lst h1)
    · exact .base (.frz h1)
  | tuple ds =>
    obtain ⟨a, xs, rfl, h1, _⟩ := top_tup h
    rcases h1 with h1 | ⟨o, h1⟩
    · exact .base (.tup h1)
    · exact .fTuple h1
  | dict ds =>
    obtain ⟨a, rfl, h3, _⟩ := (show ∃ a, x = .ref a ∧ (isX ds = false → ∃ o ps, RdK H a o ∧ dOf o = some ps ∧ RepK S H ps ds) ∧ (isX ds = true → isOb (.dict ds) = false → Rep S H (.ref a) (.dict ds)) from h)
    obtain ⟨o, ps, h1, h2, _⟩ := h3 nx
    cases o with
    | dK kvs =>
      rcases h1 with h1 | ⟨od, _, _, h1⟩
      · exact .base (.dK h1)
      · exact .fDict h1
    | dT kvs =>
      rcases h1 with h1 | ⟨od, _, e, _⟩
      · exact .base (.dT h1)
      · cases e
    | _ => cases h2
/-- is a value of the type ty one of the type t -/
def isTy (t ty : String) : Bool := ty == t || (t == "int" && ty == "bool")
theorem kit_isTy {K : PySem.W.Frag} {t : String} (ht : t ∈ ["int", "bool", "str", "list", "tuple"]) (d : D) : PySem.W.kitOne K (.type (tyD d)) (.type t) = some (isTy t (tyD d)) := by
  have h : ∀ ty ∈ ["NoneType", "bool", "int", "str", "list", "tuple", "dict"], ∀ t ∈ ["int", "bool", "str", "list", "tuple"], kitB ty t = some (isTy t ty) := by decide +kernel
  exact kit_ty (h _ (by cases d <;> simp [tyD]) t ht)
def gIsi (t : String) : D → Option OutV := fun d => if isXD d then none else some (.it (.bool (isTy t (tyD d))))
theorem if_none {α : Type} {b : Bool} {x y : α} (h : (if b then none else some x) = some y) : b = false ∧ x = y := by
  cases b with
  | false => exact ⟨rfl, Option.some.inj h⟩
  | true => cases h
theorem de_isi {X : Cx} {e : Expr} {fe : Fe} {t : Str} {ts : String} {p p2 pos : Pos} (hg : Gl X "isinstance") (hm : X.mg "isinstance" = none) (he : DE X e fe) (hgt : Gl X t) (hmt : X.mg t = none) (hvt : bootBuiltins t = some (.type ts)) (ht : ts ∈ ["int", "bool", "str", "list", "tuple"])
    (hv : bootBuiltins "isinstance" = some (.builtin "isinstance") := by decide +kernel) (hn : t ≠ "__name__" := by decide) (hd : (t == ("__debug__" : Str)) = false := by decide)
    (hs : starEach [e, .Name t p2] X.env = (false, eval e X.env) :: starEach [.Name t p2] X.env := by rfl) (hs2 : starEach [.Name t p2] X.env = (false, eval (.Name t p2) X.env) :: starEach [] X.env := by rfl) (hpl : (backTo pos (starEach [.Name t p2] X.env)).any (·.1) = false := by rfl) :
    DE X (.Call (.Name "isinstance" p) [e, .Name t p2] [] pos) (fop1 (gIsi ts) fe) := by
  intro P T σ ρ H rv ρ' S hf Q q
  refine PE.we (pe_callB call_isi hg hm hv (pa_cons peW (pa_cons (pe_bltn (v := .ty ts) hgt hmt hvt rfl hn hd) pa_nil hs2) hs) (he := hs) (hpl := hpl)) ?_
  refine op1_core (r := fun x H1 Q => rIsi X.K [x, .ty ts] H1 Q) he (fun S H x dx o hx h => ?_) S hf q
  obtain ⟨nx, rfl⟩ := if_none h
  exact Does.bl fun Q q => ⟨x, .ty ts, _, .type ts, _, rfl, .ty ts, top_ty hx nx, kit_isTy ht dx, q⟩
def gIsi2 (t u : String) : D → Option OutV := fun d => if isXD d then none else some (.it (.bool (isTy t (tyD d) || isTy u (tyD d))))
theorem de_isi2 {X : Cx} {e : Expr} {fe : Fe} {t u : Str} {ts us : String} {p p2 p3 p4 pos : Pos} {kk : Nat} (hg : Gl X "isinstance") (hm : X.mg "isinstance" = none) (he : DE X e fe) (hgt : Gl X t) (hmt : X.mg t = none) (hvt : bootBuiltins t = some (.type ts)) (ht : ts ∈ ["int", "bool", "str", "list", "tuple"])
    (hgu : Gl X u) (hmu : X.mg u = none) (hvu : bootBuiltins u = some (.type us)) (hu : us ∈ ["int", "bool", "str", "list", "tuple"])
    (hv : bootBuiltins "isinstance" = some (.builtin "isinstance") := by decide +kernel) (hn : t ≠ "__name__" := by decide) (hd : (t == ("__debug__" : Str)) = false := by decide) (hn' : u ≠ "__name__" := by decide) (hd' : (u == ("__debug__" : Str)) = false := by decide)
    (hs : starEach [e, .Tuple [.Name t p2, .Name u p3] kk p4] X.env = (false, eval e X.env) :: starEach [.Tuple [.Name t p2, .Name u p3] kk p4] X.env := by rfl) (hs2 : starEach [.Tuple [.Name t p2, .Name u p3] kk p4] X.env = (false, eval (.Tuple [.Name t p2, .Name u p3] kk p4) X.env) :: starEach [] X.env := by rfl)
    (hs3 : starEach [.Name t p2, .Name u p3] X.env = (false, eval (.Name t p2) X.env) :: starEach [.Name u p3] X.env := by rfl) (hs4 : starEach [.Name u p3] X.env = (false, eval (.Name u p3) X.env) :: starEach [] X.env := by rfl) (hpl : (backTo pos (starEach [.Tuple [.Name t p2, .Name u p3] kk p4] X.env)).any (·.1) = false := by rfl) :
    DE X (.Call (.Name "isinstance" p) [e, .Tuple [.Name t p2, .Name u p3] kk p4] [] pos) (fop1 (gIsi2 ts us) fe) := by
  intro P T σ ρ H rv ρ' S hf Q q
  refine PE.we (pe_callB call_isiT hg hm hv (pa_cons peW (pa_cons (pe_tup (pa_cons (pe_bltn (v := .ty ts) hgt hmt hvt rfl hn hd) (pa_cons (pe_bltn (v := .ty us) hgu hmu hvu rfl hn' hd') pa_nil hs4) hs3)) pa_nil hs2) hs) (he := hs) (hpl := hpl)) ?_
  simp only [fop1, Option.bind_eq_some_iff, Option.map_eq_some_iff] at hf
  obtain ⟨⟨ra, ρ1⟩, h1, da, h3, o, h5, h6⟩ := hf
  obtain ⟨nx, rfl⟩ := if_none h5
  cases h6
  refine he P T σ ρ H ra ρ1 S h1 _ fun v H1 T1 A1 => ⟨by show 2 ≤ sizeLine; decide, fun p hp => ?_⟩
  obtain ⟨S2, st2⟩ := A1.sim.allocT (o := .tup [.ty ts, .ty us]) hp
  have V2 := A1.val.step A1.sim st2 .refl .refl
  have tp := V2.top S2 h3
  refine ⟨v, p, [.ty ts, .ty us], _, [.type ts, .type us], isTy ts (tyD da) || isTy us (tyD da), rfl, upd_same, .cons (.ty ts) (.cons (.ty us) .nil), top_ty tp nx, ?_, ?_⟩
  · refine kitAny_cons (kit_isTy ht da) (fun e => kitAny_cons (kit_isTy hu da) (fun e' => ?_) fun e' => ?_) fun e => ?_
    · rw [e, e']; exact kitAny_nil
    · rw [e']; simp
    · rw [e]; simp
  · have S3 : Sim P T σ ρ1 (upd H1 p (.tup [.ty ts, .ty us])) := S2.less fun b h => A1.tx.tg.1 b h
    exact q _ _ T (aft_sh S3 (A1.stp.trans st2) A1.kp .refl (.bl _))
def gAppend : List D → List D → Option (D × List D) := fun es ds => match ds with
  | [d] => if es.length < 16777216 then some (.none, es ++ [d]) else none
  | _ => none
theorem opM_append : OpM rAppend gAppend := by
  intro S H a xs es vs ds d es' ha hr hv h
  match ds, h with
  | [e], h =>
    obtain ⟨hc, h1⟩ := guard_of (show (if es.length < 16777216 then some (PyData.none, es ++ [e]) else none) = some (d, es') from h)
    cases h1
    cases hv with
    | cons h1 h2 =>
      cases h2
      exact ⟨.non, xs ++ [_], hr.append (.cons h1 .nil), .non, fun Q q => ⟨a, xs, _, rfl, rfl, ha, by rw [hr.length]; exact line_lt hc, q⟩⟩
def gPop : List D → List D → Option (D × List D) := fun es ds => match ds with
  | [] => (es[es.length - 1]?).map fun d => (d, es.dropLast)
  | [.int i] => if -(2 ^ 63) ≤ i ∧ i < 2 ^ 63 then (seqIndex? i es.length).bind fun k => (es[k]?).map fun d => (d, es.eraseIdx k) else none
  | _ => none
def rPopA : V → List V → Hp → VK → Prop := fun x vs H Q => rPop x vs H Q ∨ rPopAt x vs H Q
theorem mt_popA {X : Cx} : MtR X "list.pop" rPopA := MtR.or mt_pop mt_popAt
theorem RepA.dropLast {S : Addr → Prop} {H : Hp} {vs : List V} {ds : List D} (r : RepA S H vs ds) : RepA S H vs.dropLast ds.dropLast := by
  rw [List.dropLast_eq_take, List.dropLast_eq_take, r.length]
  exact r.take _
theorem opM_pop : OpM rPopA gPop := by
  intro S H a xs es vs ds d es' ha hr hv h
  match ds, h with
  | [], h =>
    have h : (es[es.length - 1]?).map (fun d => (d, es.dropLast)) = some (d, es') := h
    simp only [Option.map_eq_some_iff] at h
    obtain ⟨e, h1, h2⟩ := h
    cases h2
    cases hv
    obtain ⟨v, h3, h4⟩ := hr.get' h1
    exact ⟨v, xs.dropLast, hr.dropLast, h4, fun Q q => .inl ⟨a, xs, v, rfl, rfl, ha, by rw [hr.length]; exact h3, q⟩⟩
  | [.int i], h =>
    have h : (if -(2 ^ 63) ≤ i ∧ i < 2 ^ 63 then (seqIndex? i es.length).bind fun k => (es[k]?).map fun d => (d, es.eraseIdx k) else none) = some (d, es') := h
    by_cases hc : -(2 ^ 63) ≤ i ∧ i < 2 ^ 63
    · rw [if_pos hc] at h
      simp only [Option.bind_eq_some_iff, Option.map_eq_some_iff] at h
      obtain ⟨k, h1, e, h2, h3⟩ := h
      cases h3
      cases hv with
      | cons r1 r2 =>
        cases r1
        cases r2
        obtain ⟨v, h4, h5⟩ := hr.get' h2
        exact ⟨v, xs.eraseIdx k, hr.eraseIdx k, h5, fun Q q => .inr ⟨a, xs, i, k, v, rfl, rfl, ha, hc.1, hc.2, by rw [hr.length]; exact h1, h4, q⟩⟩
    · rw [if_neg hc] at h; cases h
end DL
set_option Elab.async false
set_option linter.all false
set_option maxRecDepth 100000
set_option maxHeartbeats 4000000
namespace DL
open PySem PySem.Spec PyProof.Rows L2
theorem meets_enum1 {v : Value} {o : Obj} {H : Heap → Prop} (B : Begins v o H) :
    Meets (Builtin.«enumerate.__new__» ⟨[.type "enumerate", v], []⟩) (fun _ R s => H s.heap ∧
      R (.ok (.ret (.ref (s.heap.push o).objs.size))) { s with heap := (s.heap.push o).push { cls := .type "enumerate", data := .fields #[.none, .bool false, .ref s.heap.objs.size, rawInt 0, .none, .none] } }) :=
  .of_wp fun prog w A R s h => by
    obtain ⟨hp, g, d, tk, os⟩ := s
    obtain ⟨h1, h⟩ := h
    have hsub := sub_enumerate
    have q1 : ∀ {A' : Around} {E : Value → Shared → Prop} {Q : Value → Shared → Prop}, Q (.ref hp.objs.size) ⟨hp.push o, g, d, tk, os⟩ → wpAny (model prog w) A' (pyIter v) Q E ⟨hp, g, d, tk, os⟩ :=
      fun q => B.iter prog w _ _ ⟨hp, g, d, tk, os⟩ _ h1 q
    wp_walk using q1
    refine wpAny_stack_any fun st => wpAny_pure ?_
    split
    · rename_i c _ _ _ _ _
      cases (c == Value.type "enumerate")
      · wp_walk using q1
        exact ⟨_, rfl, h⟩
      · wp_walk using q1
        exact ⟨_, rfl, h⟩
    · wp_walk using q1
      exact ⟨_, rfl, h⟩
section
variable {prog : Program} {w : World} {A : Around} {E : Value → Shared → Prop} {s : Shared}
theorem call_enum1 {v : Value} {o : Obj} {H : Heap → Prop} {Q : Value → Shared → Prop} (B : Begins v o H) (h1 : H s.heap)
    (h : ∀ h', IsEnum h' (s.heap.objs.size + 1) s.heap.objs.size 0 .none → h'.get? s.heap.objs.size = some o → (∀ b o, s.heap.get? b = some o → h'.get? b = some o) → Q (.ref (s.heap.objs.size + 1)) { s with heap := h' }) :
    wpAny (model prog w) A (call (.type "enumerate") [v]) Q E s := by
  refine callType_new F.called_enumerate (by decide) (F.typeCall_enumerate_1 _) (F.newCall_enumerate_1 _) (fun obj => F.args_object_init_2 obj _) F.entry_enumerate_new (meets_enum1 B) ⟨h1, ?_⟩
  have hz : (s.heap.push o).objs.size = s.heap.objs.size + 1 := Heap.size_push ..
  show _ ∧ _
  rw [hz]
  have he : IsEnum ((s.heap.push o).push { cls := .type "enumerate", data := .fields #[.none, .bool false, .ref s.heap.objs.size, rawInt 0, .none, .none] }) (s.heap.objs.size + 1) s.heap.objs.size 0 .none := by
    have := Heap.get?_push_size (s.heap.push o) (o := { cls := .type "enumerate", data := .fields #[.none, .bool false, .ref s.heap.objs.size, rawInt 0, .none, .none] }) rfl
    rw [hz] at this; exact this
  exact ⟨⟨_, he, rfl⟩, h _ he (Heap.get?_push_of_some _ (Heap.get?_push_size _ B.free)) fun b o x => Heap.get?_push_of_some _ (Heap.get?_push_of_some _ x)⟩
end
/-- the tuple at a, each item in a new pair -/
def ItE (K : PySem.W.Frag) (a : Addr) : It :=
  ⟨fun i H => ∃ (xs : List V) (x : V), SqT K H a xs ∧ xs[i]? = some x, fun i H v H' => ∃ T x, v = .ref T ∧ H T = none ∧ H' = upd H T (.tup [.int (i : Nat), x]) ∧ ∀ xs, SqT K H a xs → xs[i]? = some x, fun i H => ∃ xs : List V, SqT K H a xs ∧ xs.length = i⟩
theorem turn_enumT {P : Program} {w : World} {K : PySem.W.Frag} {elts : List Expr} {kk : Nat} {tpos : Pos} (a e it : Addr) :
    Turn P w K (.Tuple elts kk tpos) (ItE K a) [e, it] e (fun i h => (∃ old, IsEnum h e it ((i : Nat) : Int) old) ∧ h.IsTupleIter it a i ∧ e ≠ it ∧ a ≠ it) where
  mem := by simp
  obj := fun i h st b hb => by
    obtain ⟨⟨old, he⟩, ⟨o, ho, hc, hd⟩, _⟩ := st
    have e' : b = e ∨ b = it := by simpa using hb
    rcases e' with z | z
    · rw [z]; exact ⟨_, he, fun v q => nomatch q⟩
    · rw [z]; exact ⟨o, ho, fun v q => by rw [hd] at q; cases q⟩
  keep := fun i h h' st k => let ⟨⟨old, he⟩, hi, hne, hna⟩ := st; ⟨⟨old, k e (by simp) _ he⟩, hi.at fun o q => k it (by simp) o q, hne, hna⟩
  item := by
    intro X hP hw hK hc i pins s σ H E I hf st hg
    subst hP hw hK
    obtain ⟨⟨old, he⟩, hit, hne, hna⟩ := st
    obtain ⟨xs, x, hq, hx⟩ := hg
    obtain ⟨its, rv, p, hz⟩ := I.tuple hq
    obtain ⟨u, hu, ru⟩ := rv.get hx
    have p' : s.heap.IsTuple a its.toArray := p
    have hel : e < s.heap.objs.size := Heap.lt_size he
    have hil : it < s.heap.objs.size := by obtain ⟨_, q, _⟩ := hit; exact Heap.lt_size q
    have hhd : X.A.in1.handled = none := I.ok.hd hc
    have hea : e ≠ a := fun z => by
      obtain ⟨o1, q1, q2, n, q3⟩ := p'
      have he' := he
      rw [z] at he'
      have := he'.symm.trans q1
      cases this
      cases q3
    have hlt : i < its.toArray.size := by
      have := (List.getElem?_eq_some_iff.mp hu).1
      simpa using this
    refine wpAny_pyNext_enum_itemD (Draws.tuple hhd it a hna its.toArray) he ⟨hit, p'⟩ hlt hne (by simp [hne, hea]) fun y h' tk hy ho hst' hT hsz hk => ?_
    have ey : y = u := by
      have : its.toArray[i]? = some u := by simpa using hu
      rw [this] at hy
      exact (Option.some.inj hy).symm
    subst ey
    refine ⟨_, rfl, wpAny_letOwnedTupleGo_enum (s := { s with heap := h', toks := tk + 1 }) ho fun h'' he' sb => ?_⟩
    have hT2 : h''.get? s.heap.objs.size = some { cls := .type "tuple", data := .seq #[.int i tk, y] } := (sb.2 _ (Nat.ne_of_gt hel)).trans hT
    have new : ObjOk X.prog X.w (upd H s.heap.objs.size (.tup [.int (i : Nat), x])) h'' s.heap.objs.size (.tup [.int (i : Nat), x]) :=
      ⟨by show 2 ≤ sizeLine; decide, [.int i tk, y], .cons ⟨_, rfl⟩ (.cons ru .nil), ⟨_, hT2, rfl, _, rfl⟩⟩
    have I1 : Inv X pins σ (upd H s.heap.objs.size (.tup [.int (i : Nat), x])) { s with heap := h'', toks := tk + 1 } :=
      I.turnedNew (ch := [e, it]) (fun b ob hb q => (sb.2 b (fun z => hb (by simp [z]))).trans (hk b ob (fun z => hb (by simp [z])) (fun z => hb (by simp [z])) q)) hf (Nat.le_refl _) new
    refine ⟨.ref s.heap.objs.size, _, I1, rfl, ⟨_, x, rfl, I.hok.fresh (Nat.le_refl _), rfl, fun ys hy => by rw [I.tuple_inj hy hq]; exact hx⟩, ⟨⟨y, ?_⟩, hst'.1.at fun o q => (sb.2 it (Ne.symm hne)).trans q, hne, hna⟩, fun b hb => ?_⟩
    · have e1 : ((i + 1 : Nat) : Int) = (i : Int) + 1 := by omega
      rw [e1]; exact he'
    · have hb' : b < s.heap.objs.size := by
        have e' : b = e ∨ b = it := by simpa using hb
        rcases e' with z | z
        · rw [z]; exact hel
        · rw [z]; exact hil
      rw [upd_ne (Nat.ne_of_lt hb')]
      exact (hf b hb).1
  done := by
    intro X hP hw hK hc i pins s σ H E I hf st hg
    subst hP hw hK
    obtain ⟨⟨old, he⟩, hit, hne, hna⟩ := st
    obtain ⟨xs, hq, hx⟩ := hg
    obtain ⟨its, rv, p, hz⟩ := I.tuple hq
    have p' : s.heap.IsTuple a its.toArray := p
    obtain ⟨f0, f1, f2, f3, f4, f5⟩ := hf it (by simp)
    have hl := rv.length
    have hhd : X.A.in1.handled = none := I.ok.hd hc
    have hi : i = its.toArray.size := by rw [List.size_toArray, ← hl]; exact hx.symm
    exact wpAny_pyNext_enum_endD (Draws.tuple hhd it a hna its.toArray) he (by rw [← hi]; exact ⟨hit, p'⟩) fun h' eb => ⟨rfl, I.turned (t' := s.toks) (fun b o hb q => eb b o hb q) f0 f1 f3 f4 f5⟩
  self := fun A i s Q E st h => let ⟨⟨_, he⟩, _⟩ := st; wpAny_pyIter_enum he h
def iEnumT (K : PySem.W.Frag) (ta : TA) : TI := fun σ H R => ta σ H fun vs H1 => ∃ a xs, vs = [.ref a] ∧ SqT K H1 a xs ∧ R (ItE K a) H1
theorem pi_enumT {X : Cx} {e : Expr} {ta : TA} {p pos tpos : Pos} {elts : List Expr} {kk : Nat} (hg : Gl X "enumerate") (hm : X.mg "enumerate" = none) (ha : PA X [e] ta) (hs : starEach [e] X.env = [(false, eval e X.env)] := by rfl) :
    PI X (.Tuple elts kk tpos) (.Call (.Name "enumerate" p) [e] [] pos) (iEnumT X.K ta) := by
  refine ⟨fun pins s σ H R I h => ?_⟩
  refine Call_ (ld_blt I hg hm boot_enumerate (PyProof.Rows.callWith_type1 (thn (ha.run pos pins s σ H _ I h) fun us s1 ⟨vs, H1, I1, r1, q1⟩ => ?_) hs rfl))
  obtain ⟨a, xs, ex, hq, q⟩ := q1
  subst ex
  cases r1 with
  | cons r rr =>
    cases rr
    cases r
    obtain ⟨its, rv, p', hz⟩ := I1.tuple hq
    have p2 : s1.heap.IsTuple a its.toArray := p'
    refine call_enum1 (begins_tuple a its.toArray) p2 fun h' he hit hk => wpAny_pyIter_enum he ?_
    have I2 : Inv X pins σ H1 { s1 with heap := h' } := I1.kept (t' := s1.toks) hk
    have hal : a < s1.heap.objs.size := by obtain ⟨_, q1, _⟩ := p2; exact Heap.lt_size q1
    refine ⟨s1.heap.objs.size + 1, [s1.heap.objs.size + 1, s1.heap.objs.size], _, _, H1, rfl, I2, turn_enumT a (s1.heap.objs.size + 1) s1.heap.objs.size, ⟨⟨.none, he⟩, ⟨_, hit, rfl, rfl⟩, Nat.succ_ne_self _, Nat.ne_of_lt hal⟩, fun b hb => ?_, q⟩
    have e' : b = s1.heap.objs.size + 1 ∨ b = s1.heap.objs.size := by simpa using hb
    have hle : s1.heap.objs.size ≤ b := by
      rcases e' with z | z
      · rw [z]; exact Nat.le_add_right _ _
      · rw [z]; exact Nat.le_refl _
    exact I1.fpOk hle (I1.hok.fresh hle)
section
variable {P : Pk} {T T' : Addr → Prop} {σ : SS} {ρ ρ' : En} {H H' : Hp}
theorem walk_enumT {K : PySem.W.Frag} {a : Addr} {xs : List V} {ds : List D} (hr : Rd H a (.tup xs)) (ho : ¬ Own σ ρ a) (ha : RepA (Av P T σ ρ) H xs ds) : Walk P T σ ρ H (ItE K a) (enD 0 ds) where
  go := fun i H' k hi => by
    rw [enD_len] at hi
    have hi' : i < xs.length := by rw [ha.length]; exact hi
    exact ⟨xs, xs[i], .inl (rd_keep hr ho k), by simp [hi']⟩
  yld := fun i H' k hi x H2 y => by
    obtain ⟨t, y0, e1, hn, e2, y⟩ := y
    subst e1
    have hx := y xs (.inl (rd_keep hr ho k))
    obtain ⟨d, e3, r1⟩ := ha.get hx
    obtain ⟨u1, u2⟩ := rep_pair (P := P) (T := T) hn e2 k (.int (i : Nat)) r1
    exact ⟨u1, _, by rw [enD_get ds 0 i d e3, Nat.zero_add], u2⟩
  stop := fun H' k => ⟨xs, .inl (rd_keep hr ho k), by rw [ha.length, enD_len]⟩
end
def fien (f : Fe) : Fi := fun ρ => (f ρ).bind fun x => (dat x.2 x.1).bind fun d => (rel x.2 x.1).bind fun ρ2 => match d with
  | .list ds => some (enD 0 ds, ρ2)
  | .tuple ds => some (enD 0 ds, ρ2)
  | _ => none
theorem di_enum {X : Cx} {e : Expr} {fe : Fe} {p pos tpos : Pos} {elts : List Expr} {kk : Nat} (hg : Gl X "enumerate") (hm : X.mg "enumerate" = none) (he : DE X e fe) (hs : starEach [e] X.env = [(false, eval e X.env)] := by rfl) :
    DI X (.Tuple elts kk tpos) (.Call (.Name "enumerate" p) [e] [] pos) (fien fe) := by
  intro P T σ ρ H items ρ' S hf R q
  simp only [fien, Option.bind_eq_some_iff] at hf
  obtain ⟨⟨r, ρ1⟩, e1, d, e2, ρ2, e3, e4⟩ := hf
  have hs' : starEach [e] X.env = (false, eval e X.env) :: starEach [] X.env := hs
  cases d with
  | list ds =>
    cases e4
    refine PI.wi (pi_enum hg hm (pa_cons peW pa_nil hs') hs) (he P T σ ρ H r ρ1 S e1 _ fun v H1 T1 A => ?_)
    obtain ⟨st2, kp2⟩ := rel_stp (σ := σ) (H := H1) e3
    obtain ⟨a, xs, ev, hr, ho, ha⟩ := (A.val.held A.sim e3 e2).1 ds rfl
    exact ⟨a, xs, by rw [ev], .inl hr, q _ H1 T1 (A.sim.rel e3) (A.stp.trans st2) (A.kp.trans kp2) A.tx.tg (walk_enum hr ho ha)⟩
  | tuple ds =>
    cases e4
    refine PI.wi (pi_enumT hg hm (pa_cons peW pa_nil hs') hs) (he P T σ ρ H r ρ1 S e1 _ fun v H1 T1 A => ?_)
    obtain ⟨st2, kp2⟩ := rel_stp (σ := σ) (H := H1) e3
    obtain ⟨a, xs, ev, hr, ho, ha⟩ := (A.val.held A.sim e3 e2).2 ds rfl
    exact ⟨a, xs, by rw [ev], .inl hr, q _ H1 T1 (A.sim.rel e3) (A.stp.trans st2) (A.kp.trans kp2) A.tx.tg (walk_enumT hr ho ha)⟩
  | _ => cases e4
end DL
set_option Elab.async false
set_option linter.all false
set_option maxRecDepth 100000
set_option maxHeartbeats 4000000
namespace DL
open PySem PySem.Spec PyProof.Rows L2
section
variable {X : Cx}
/-- targets that are names -/
structure PN (X : Cx) (ts : List Expr) (is : List Nat) : Prop where
  g : PGs X ts (fun vs σ H Q => vs.length = is.length ∧ Q (sets is vs σ) H)
end
theorem room65 {k : Nat} {A : Around} (r : RoomG k A) : A.units + 65 < cLine := by have := r.rm.un; omega
structure At (K : PySem.W.Frag) (mg : Str → Option Value) (x : Str) (st : Stmt) (ps : List Str) (f : Addr) (fd : FuncData) : Prop where
  fn : Fun K x x st f fd
  mg : mg x = some (.ref f)
  bd : Binds K fd ps []
section
variable {P : Program} {w : World} {K : PySem.W.Frag} {mg : Str → Option Value} {base : Heap}
theorem fn_none {f : Addr} {fd : FuncData} {ps : List Str} {k : Option Nat} {lv : Nat} : FnG P w K mg base CX0 lv f fd ps (spD k fun _ => none) :=
  ⟨fun vs H Q E ⟨S, ds, r, h, _⟩ => (nomatch h), fun A outer s H args us vs Q E hr he hb hv ⟨S, ds, r, h, _⟩ => (nomatch h)⟩
end
def notList (o : Obj) : Bool := match o.cls with
  | .type n => n != "list"
  | _ => true
def noLists (K : PySem.W.Frag) : Bool := K.all fun p => notList p.2
theorem noLists_lookup {K : PySem.W.Frag} (h : noLists K = true) {a : Addr} {o : Obj} (e : K.lookup a = some o) (hc : o.cls = .type "list") : False := by
  have mem : ∀ (l : List (Addr × Obj)), l.lookup a = some o → ∃ b, (b, o) ∈ l := by
    intro l
    induction l with
    | nil => intro h; cases h
    | cons p l ih =>
      intro h
      obtain ⟨b, u⟩ := p
      rw [List.lookup_cons] at h
      split at h
      · cases h; exact ⟨b, List.mem_cons_self⟩
      · obtain ⟨c, hc⟩ := ih h
        exact ⟨c, List.mem_cons_of_mem _ hc⟩
  obtain ⟨b, hb⟩ := mem K e
  have := List.all_eq_true.mp h (b, o) hb
  simp only [notList, hc] at this
  exact absurd this (by decide)
/-- the law's answer at every script -/
def LawOk (F : FS) : Prop := ∀ ns : List Int, ns.length ≤ 63 → ∃ es, F [.list (ns.map .int)] = some ⟨false, .bool true, es⟩
theorem law_callG {P : Program} {w : World} {K : PySem.W.Frag} {mg mb : Str → Option Value} {k : Nat} {fa a : Addr} {fd : FuncData} {x : Str} {F : FS} {s1 : Shared} {vs : List Value} {ns : List Int} {es : List D}
    (KX : K.In s1.heap) (hns : s1.heap.Ns mainGlobals mg) (hb : s1.heap.Ns builtinsNs mb) (hbb : ∀ x : Str, x ≠ "__name__" → mb x = bootBuiltins x) (hlim : s1.heap.NoLimit) (hg : s1.gens = #[]) (hN : noLists K = true)
    (ha : s1.heap.get? a = some { cls := .type "list", data := .seq vs.toArray }) (hi : IntsAre vs ns) (hl : ns.length ≤ sizeLine) (hr : Room k callerA)
    (Fo : ∀ base : Heap, K.In base → base.Ns mainGlobals mg → FnG P w K mg base CX0 k fa fd [x] (spD none F)) (hbind : ∀ (s : Shared) (u : Value), BindsTo s fd ⟨[u], []⟩ [(x, u)])
    (he : F [.list (ns.map .int)] = some ⟨false, .bool true, es⟩) :
    codeAny (model P w) callerA (.call (.ref fa) ⟨[.ref a], []⟩) (fun r s' => r = .ok (.ret (.bool true)) ∧ OldK s1.heap s'.heap ∧ s'.os = s1.os ∧ AllBare s'.gens) s1 := by
  have noK : ∀ o, K.lookup a ≠ some o := fun o e => by
    have := KX a o e
    rw [ha] at this; cases this
    exact noLists_lookup hN e rfl
  -- the script is the one object that is tracked
  obtain ⟨H, hHa, hHn⟩ : ∃ H : Hp, H a = some (.frz { cls := .type "list", data := .seq vs.toArray } (.lst (ns.map V.int))) ∧ ∀ b, b ≠ a → H b = none :=
    ⟨fun b => if b = a then some (.frz { cls := .type "list", data := .seq vs.toArray } (.lst (ns.map V.int))) else none, if_pos rfl, fun b h => if_neg h⟩
  have hid : ∀ {b : Addr} {o : Obj}, s1.heap.get? b = some o → b ≠ a → (hidT s1.heap H).get? b = some o := fun e h => hidT_get e (hHn _ h)
  have nsH : ∀ {b : Addr} {m : Str → Option Value}, s1.heap.Ns b m → (hidT s1.heap H).Ns b m := fun {b m} ⟨o, en, ep, e, d, r⟩ => ⟨o, en, ep, hid e (fun z => by
    subst z
    rw [ha] at e; cases e
    cases (show Data.seq vs.toArray _ = Data.dict en ep from d)), d, r⟩
  have hK : K.In (hidT s1.heap H) := fun b o e => hid (KX b o e) fun z => noK o (z ▸ e)
  have hM : Mod K mg (hidT s1.heap H) := by
    obtain ⟨mc, h1, h2⟩ := hlim
    exact ⟨hK, nsH hns, ⟨mb, nsH hb, hbb⟩, mc, nsH h1, h2⟩
  have hok : HOk P w H s1.heap := fun b u z => by
    by_cases h : b = a
    · subst h
      rw [hHa] at z; cases z
      exact ⟨ha, by rw [List.length_map]; exact hl, vs, _, vals_ints hi, ha⟩
    · rw [hHn b h] at z; cases z
  have e0 : Env0 P w K mg (hidT s1.heap H) callerA [] s1 H := ⟨rfl, hM, fun b o e => of_hidT e, Nat.le_of_eq (hidT_size _ _), trivial, (fun b hb => nomatch hb), hok, .of_eq hg⟩
  refine codeAny_mono ((Fo _ hK (nsH hns)).runs callerA [] s1 H ⟨[.ref a], []⟩ [.ref a] [.ref a] (fun v _ => v = .bl true) (fun _ _ _ => False) ⟨hr, rfl⟩ e0 (hbind s1 (.ref a)) (.cons rfl .nil) ?_) fun r s' h => ?_
  · refine ⟨fun b => b = a, [.list (ns.map .int)], _, he, ⟨rfl, fun i v d _ h1 h2 => ?_, fun i v d h => (nomatch h), fun b zs hz => ?_⟩, fun v H' T po => ?_⟩
    · match i, h1, h2 with
      | 0, h1, h2 =>
        cases h1; cases h2
        exact .lst rfl (.inr ⟨_, hHa⟩) (RepA.of_ints ns)
    · by_cases h : b = a
      · exact h
      · rw [hHn b h] at hz; cases hz
    · have := po.res rfl
      cases this
      rfl
  · match r, h with
    | .ok (.ret u), ⟨v, H', os, bare, un, hok', r', q⟩ =>
      have q' : v = .bl true := q
      subst q'
      obtain rfl : u = Value.bool true := r'
      refine ⟨rfl, OldK.of_keep fun b o e => ?_, os, bare⟩
      by_cases h : b = a
      · subst h
        have z := un.frzs b _ _ hHa
        rw [ha] at e; cases e
        exact (hok' b _ z).1
      · exact un.keep b o e (hHn b h) (fun z => nomatch z) (fun z => nomatch z)
end DL
set_option Elab.async false
set_option linter.all false
set_option maxRecDepth 100000
set_option maxHeartbeats 2000000
namespace DL
open PySem PySem.Spec PyProof.Rows L2
section
end
section
end
section
end
end DL
set_option Elab.async false
set_option linter.all false
set_option maxRecDepth 100000
set_option maxHeartbeats 2000000
namespace DL
open PySem PySem.Spec PyProof.Rows L2
end DL
set_option Elab.async false
set_option linter.all false
set_option maxRecDepth 100000
set_option maxHeartbeats 2000000
namespace DL
open PySem PySem.Spec PyProof.Rows L2
end DL
set_option Elab.async false
set_option linter.all false
set_option maxRecDepth 100000
set_option maxHeartbeats 2000000
namespace DL
open PySem PySem.Spec PyProof.Rows L2
section
variable {P : Pk} {T T' : Addr → Prop} {σ : SS} {ρ ρ' : En} {H H' : Hp}
theorem TxA.at : ∀ {vs : List V} {rs : List RV}, vs.length = rs.length → TxA H vs rs → ∀ (i : Nat) (d : D), rs[i]? = some (RV.fr d) → ∃ a, vs[i]? = some (V.ref a) ∧ H a = none ∧ ∀ (j : Nat) (d' : D), i < j → rs[j]? = some (RV.fr d') → vs[j]? ≠ some (V.ref a)
  | [], [], _, _, i, d, e => by simp at e
  | v :: vs, r :: rs, hl, h, 0, d, e => by
    obtain ⟨a, e1, e2, e3⟩ := h.1 d (by simpa using e)
    refine ⟨a, by simp [e1], e2, fun j d' hj e4 e5 => ?_⟩
    obtain ⟨j', rfl⟩ : ∃ j', j = j' + 1 := ⟨j - 1, by omega⟩
    exact e3 j' d' (by simpa using e4) (by simpa using e5)
  | v :: vs, r :: rs, hl, h, i + 1, d, e => by
    obtain ⟨a, e1, e2, e3⟩ := TxA.at (by simpa using hl) h.2 i d (by simpa using e)
    refine ⟨a, by simpa using e1, e2, fun j d' hj e4 e5 => ?_⟩
    obtain ⟨j', rfl⟩ : ∃ j', j = j' + 1 := ⟨j - 1, by omega⟩
    exact e3 j' d' (by omega) (by simpa using e4) (by simpa using e5)
  | [], _ :: _, hl, _, _, _, _ => by simp at hl
  | _ :: _, [], hl, _, _, _, _ => by simp at hl
end
section
end
end DL
set_option Elab.async false
set_option linter.all false
set_option maxRecDepth 100000
set_option maxHeartbeats 2000000
namespace DL
open PySem PySem.Spec PyProof.Rows L2
abbrev Nl := List (Nat × List D)
/-- the slots as a test reads them: nothing is owned -/
def smallE : En → En
  | [] => []
  | x :: ρ => (match x with
    | some (.bx, _) => none
    | some (_, d) => some (.sh, d)
    | none => none) :: smallE ρ
def small (ρ : En) : Nl → En
  | [] => smallE ρ
  | p :: ns => (small ρ ns).set p.1 (some (.sh, .list p.2))
section
variable {P : Pk} {T T2 : Addr → Prop} {σ σ' : SS} {ρ ρ' : En} {H H' : Hp} {ns : Nl}
/-- a slot is unset or forgotten -/
theorem Sim.drop {i : Nat} {x : Option V} (S : Sim P T σ ρ H) : Sim P T (σ.set i x) (ρ.set i none) H ∧ (∀ b, Own (σ.set i x) (ρ.set i none) b → Own σ ρ b) := by
  have get : ∀ {j : Nat} {y : Fl × D}, (ρ.set i none)[j]? = some (some y) → j ≠ i ∧ ρ[j]? = some (some y) := fun {j y} h => by
    rcases get_set h with ⟨_, e⟩ | e
    · cases e
    · exact e
  have sg : ∀ {j : Nat}, j ≠ i → (σ.set i x)[j]? = σ[j]? := fun {j} h => List.getElem?_set_ne (Ne.symm h)
  have ow : ∀ b, Own (σ.set i x) (ρ.set i none) b → Own σ ρ b := fun b ⟨j, fl, d, h1, h2, h3⟩ => by
    obtain ⟨n, e⟩ := get h1
    rw [sg n] at h3
    exact ⟨j, fl, d, e, h2, h3⟩
  have av : ∀ a u, Av P T σ ρ a → H a = some u → Av P T (σ.set i x) (ρ.set i none) a ∧ H a = some u := fun a u ⟨h1, h2, h3⟩ e => ⟨⟨h1, fun q => h2 (ow a q), h3⟩, e⟩
  refine ⟨⟨by simp [S.len], fun j d e => ?_, fun j fl d e n => ?_, fun j k fl fl' d d' a e n e' n' s s' => ?_, fun j d a e s => ?_, fun j d e => ?_, fun c q => ⟨(S.tn c q).1, fun z => (S.tn c q).2 (ow c z)⟩, S.keep, S.dom, S.sB, S.tp⟩, ow⟩
  · obtain ⟨n, e⟩ := get e
    obtain ⟨v, q1, q2⟩ := S.sh j d e
    exact ⟨v, by rw [sg n]; exact q1, q2.mono av⟩
  · obtain ⟨n2, e⟩ := get e
    obtain ⟨a, o, q2, q3, q4⟩ := S.ow j fl d e n
    exact ⟨a, o, by rw [sg n2]; exact q2, q3, q4.mono av⟩
  · obtain ⟨n1, e⟩ := get e
    obtain ⟨n2, e'⟩ := get e'
    rw [sg n1] at s
    rw [sg n2] at s'
    exact S.dj j k fl fl' d d' a e n e' n' s s'
  · obtain ⟨n, e⟩ := get e
    rw [sg n] at s
    exact S.new j d a e s
  · obtain ⟨n, e⟩ := get e
    rw [sg n]
    exact S.bx j d e
end
def NoOwn (σ : SS) (ρ : En) : Addr → Prop := fun b => ¬ Own σ ρ b
structure PIn (P : Pk) (T : Addr → Prop) (σ0 : SS) (ρ0 : En) (H0 : Hp) (σ : SS) (ρ : En) (ns : Nl) (m : Nat) (H : Hp) (T2 I : Addr → Prop) : Prop where
  sim : Sim P T2 σ ρ H
  tg : Tg T H0 T2
  stp : Stp σ0 ρ0 H0 σ ρ H
  inn : ∀ b, I b → T2 b ∧ H0 b = none ∧ ∃ xs, H b = some (.lst xs) ∧ xs.length ≤ 1000000 + m
  nst : ∀ s ds, (s, ds) ∈ ns → ρ[s]? = some none ∧ ∃ a vs, σ[s]? = some (some (V.ref a)) ∧ H a = some (.lst vs) ∧ T2 a ∧ ¬ I a ∧ vs.length = ds.length ∧ (∀ v ∈ vs, ∃ b, v = V.ref b ∧ I b) ∧ (m = 0 → Rep (NoOwn σ ρ) H (.ref a) (.list ds))
  dom : ∀ b o, P.H0 b = some o → ∃ o', H0 b = some o'
section
variable {P : Pk} {T T2 T3 I : Addr → Prop} {σ0 σ : SS} {ρ0 ρ : En} {H0 H H' : Hp} {ns : Nl} {m : Nat}
theorem PIn.start (S : Sim P T σ ρ H) : PIn P T σ ρ H σ ρ [] 0 H T (fun _ => False) :=
  ⟨S, .refl, .refl, fun b q => q.elim, fun s ds h => by simp at h, S.dom⟩
end
section
variable {X : Cx} {st : Stmt} {rest : List Stmt} {f : Fp} {g : Fq} {pos : Pos}
def allFrL : List RV → Bool
  | [] => true
  | .fr (.list es) :: rs => decide (es.length ≤ 1000000) && allFrL rs
  | _ => false
end
end DL
set_option Elab.async false
set_option linter.all false
set_option maxRecDepth 100000
set_option maxHeartbeats 2000000
namespace HT
open PySem PyProof.Rows
section
open PySem.SeqAt
end
end HT
namespace L2
open PySem PySem.Spec PyProof.Rows
section
end
end L2
namespace DL
open PySem PySem.Spec PyProof.Rows L2
end DL
set_option Elab.async false
set_option linter.all false
set_option maxRecDepth 100000
set_option maxHeartbeats 2000000
namespace DL
open PySem PySem.Spec PyProof.Rows L2
section
end
section
end
section
end
end DL
set_option Elab.async false
set_option linter.all false
set_option maxRecDepth 100000
set_option maxHeartbeats 1000000
namespace DL
open PySem PySem.Spec PyProof.Rows L2
section
end
end DL
set_option Elab.async false
set_option linter.all false
set_option maxRecDepth 100000
set_option maxHeartbeats 1000000
namespace DL
open PySem PySem.Spec PyProof.Rows L2
end DL
set_option Elab.async false
set_option linter.all false
set_option maxRecDepth 100000
set_option maxHeartbeats 1000000
namespace DL
open PySem PySem.Spec PyProof.Rows L2
end DL
set_option Elab.async false
set_option linter.all false
set_option maxRecDepth 100000
set_option maxHeartbeats 2000000
namespace DL
open PySem PySem.Spec PyProof.Rows L2
/-- the head of a dict with tuple keys -/
abbrev hdT : D × D := (.none, .none)
section
end
end DL
set_option Elab.async false
set_option linter.all false
set_option maxRecDepth 100000
set_option maxHeartbeats 2000000
namespace DL
open PySem PySem.Spec PyProof.Rows L2
end DL
set_option Elab.async false
set_option linter.all false
set_option maxRecDepth 100000
set_option maxHeartbeats 2000000
namespace DL
open PySem PySem.Spec PyProof.Rows L2
/-- the value at a key, the key as the dict has it -/
def getD : List (D × D) → (D → Bool) → Option D
  | [], _ => none
  | p :: es, f => if f p.1 then some p.2 else getD es f
end DL
set_option Elab.async false
set_option linter.all false
set_option maxRecDepth 100000
set_option maxHeartbeats 2000000
namespace DL
open PySem PySem.Spec PyProof.Rows L2
end DL
set_option Elab.async false
set_option linter.all false
set_option maxRecDepth 100000
set_option maxHeartbeats 2000000
namespace DL
open PySem PySem.Spec PyProof.Rows L2
section
end
section
end
end DL
set_option Elab.async false
set_option linter.all false
set_option maxRecDepth 100000
set_option maxHeartbeats 2000000
namespace DL
open PySem PySem.Spec PyProof.Rows L2
section
end
section
end
end DL
set_option Elab.async false
set_option linter.all false
set_option maxRecDepth 100000
set_option maxHeartbeats 2000000
namespace DL
open PySem PySem.Spec PyProof.Rows L2
section
end
section
end
section
end
end DL
set_option Elab.async false
set_option linter.all false
set_option maxRecDepth 100000
set_option maxHeartbeats 2000000
namespace DL
open PySem PySem.Spec PyProof.Rows L2
mutual
/-- no dict within -/
def noDct : D → Bool
  | .list ds => noDctA ds
  | .tuple ds => noDctA ds
  | .dict _ => false
  | _ => true
def noDctA : List D → Bool
  | [] => true
  | d :: ds => noDct d && noDctA ds
end
def isDO : HO → Bool
  | .dK _ => true
  | .dT _ => true
  | .frz _ (.dK _) => true
  | .frz _ (.dT _) => true
  | _ => false
section
variable {S S' : Addr → Prop} {H H' : Hp} {d : Addr}
mutual
theorem Rep.nd (hd : ∀ o, H d = some o → isDO o = true) (h : ∀ a o, S a → H a = some o → a ≠ d → S' a ∧ H' a = some o) : ∀ (x : D) (v : V), noDct x = true → Rep S H v x → Rep S' H' v x
  | .none, _, _, r => by cases r; exact .non
  | .bool b, _, _, r => by cases r; exact .bl b
  | .int i, _, _, r => by cases r; exact .int i
  | .str x, _, _, r => by cases r; exact .str x
  | .list ds, _, n, r => by
    cases r with
    | @lst a _ _ hs hr ha =>
      obtain ⟨o, ho⟩ := Rd.dom hr
      have ne : a ≠ d := fun z => by
        subst z
        rcases hr with hr | ⟨o', hr⟩
        · exact absurd (hd _ hr) (by simp [isDO])
        · exact absurd (hd _ hr) (by simp [isDO])
      exact .lst (h _ o hs ho ne).1 (Rd.up (fun o q => (h _ o hs q ne).2) hr) (RepA.nd hd h ds _ (by simpa [noDct] using n) ha)
  | .tuple ds, _, n, r => by
    cases r with
    | @tup a _ _ hs hr ha =>
      have ne : a ≠ d := fun z => by
        subst z
        exact absurd (hd _ hr) (by simp [isDO])
      exact .tup (h _ _ hs hr ne).1 (h _ _ hs hr ne).2 (RepA.nd hd h ds _ (by simpa [noDct] using n) ha)
  | .dict es, _, n, r => by simp [noDct] at n
theorem RepA.nd (hd : ∀ o, H d = some o → isDO o = true) (h : ∀ a o, S a → H a = some o → a ≠ d → S' a ∧ H' a = some o) : ∀ (ds : List D) (vs : List V), noDctA ds = true → RepA S H vs ds → RepA S' H' vs ds
  | [], _, _, r => by cases r; exact .nil
  | x :: ds, _, n, r => by
    simp only [noDctA, Bool.and_eq_true] at n
    cases r with
    | cons r1 r2 => exact .cons (Rep.nd hd h x _ n.1 r1) (RepA.nd hd h ds _ n.2 r2)
end
theorem RepK.nd (hd : ∀ o, H d = some o → isDO o = true) (h : ∀ a o, S a → H a = some o → a ≠ d → S' a ∧ H' a = some o) : ∀ {ps : List (D × V)} {es : List (D × D)}, noDctA (es.map (·.2)) = true → RepK S H ps es → RepK S' H' ps es
  | _, [], _, r => by cases r; exact .nil
  | _, (k, x) :: es, n, r => by
    simp only [List.map_cons, noDctA, Bool.and_eq_true] at n
    cases r with
    | cons r1 r2 => exact .cons (Rep.nd hd h x _ n.1 r1) (RepK.nd hd h n.2 r2)
end
section
end
section
end
end DL
namespace DL
open PySem PySem.Spec PyProof.Rows L2
section
end
end DL
set_option Elab.async false
set_option linter.all false
set_option maxRecDepth 100000
set_option maxHeartbeats 2000000
namespace DL
open PySem PySem.Spec PyProof.Rows L2
section
end
end DL
namespace DL
open PySem PySem.Spec PyProof.Rows L2
end DL
namespace DL
open PySem PySem.Spec PyProof.Rows L2
section
end
end DL
set_option Elab.async false
set_option linter.all false
set_option maxRecDepth 100000
set_option maxHeartbeats 1000000
namespace PySem
open Sem (wp)
open PyProof.Rows
section
end
section
end
end PySem
namespace DL
open PySem PySem.Spec PyProof.Rows L2
theorem vals_refs : ∀ {ps : List Addr} {us : List Value}, Vals (ps.map V.ref) us → us = ps.map Value.ref
  | [], us, r => by cases r; rfl
  | p :: ps, us, r => by
    cases r with
    | cons r t =>
      cases r
      rw [vals_refs t]; rfl
end DL
namespace DL
open PySem PySem.Spec PyProof.Rows L2
end DL
set_option Elab.async false
set_option linter.all false
set_option maxRecDepth 100000
set_option maxHeartbeats 1000000
namespace DL
open PySem PySem.Spec PyProof.Rows L2
end DL
set_option Elab.async false
set_option linter.all false
set_option maxRecDepth 100000
set_option maxHeartbeats 2000000
namespace DL
open PySem PySem.Spec PyProof.Rows L2 PpSet
section
end
section
end
section
end
section
end
end DL
set_option Elab.async false
set_option linter.all false
set_option maxRecDepth 100000
set_option maxHeartbeats 2000000
namespace DL
open PySem PySem.Spec PyProof.Rows L2
section
end
end DL
set_option Elab.async false
set_option linter.all false
set_option maxRecDepth 100000
set_option maxHeartbeats 2000000
namespace DL
open PySem PySem.Spec PyProof.Rows L2
section
end
section
end
end DL
set_option Elab.async false
set_option linter.all false
set_option maxRecDepth 100000
set_option maxHeartbeats 2000000
namespace DL
open PySem PySem.Spec PyProof.Rows L2
open PySem.W (alike dataLt dataLe keyToks AllAlike Sortable EachIs dataKind sortVals)
section
end
end DL
set_option Elab.async false
set_option linter.all false
set_option maxRecDepth 100000
set_option maxHeartbeats 4000000
namespace DL
open PySem PySem.Spec PyProof.Rows L2 PpSet
section
end
section
end
section
end
end DL
set_option Elab.async false
set_option linter.all false
set_option maxRecDepth 100000
set_option maxHeartbeats 2000000
namespace DL
open PySem PySem.Spec PyProof.Rows L2
end DL
set_option Elab.async false
set_option linter.all false
set_option maxRecDepth 100000
set_option maxHeartbeats 1000000
namespace DL
open PySem PySem.Spec PyProof.Rows L2
theorem da_consL {X : Cx} {ys es : List Expr} {pos : Pos} {f : Fe} {fs : Fa} (h1 : DE X (.List ys pos) f) (h2 : DA X es fs) : DA X (.List ys pos :: es) (fcons f fs) := da_cons h1 h2 rfl
end DL
set_option Elab.async false
set_option linter.all false
set_option maxRecDepth 100000
set_option maxHeartbeats 1000000
namespace DL
open PySem PySem.Spec PyProof.Rows L2
end DL
set_option Elab.async false
set_option linter.all false
set_option maxRecDepth 100000
set_option maxHeartbeats 1000000
namespace DL
open PySem PySem.Spec PyProof.Rows L2
section
end
end DL
set_option Elab.async false
set_option linter.all false
set_option maxRecDepth 100000
set_option maxHeartbeats 4000000
namespace DL
open PySem PySem.Spec PyProof.Rows L2
section
end
end DL
set_option Elab.async false
set_option linter.all false
set_option maxRecDepth 100000
set_option maxHeartbeats 1000000
namespace PySem
open Sem (wp)
open PyProof.Rows
section
end
section
end
end PySem
namespace DL
open PySem PySem.Spec PyProof.Rows L2
end DL
set_option Elab.async false
set_option linter.all false
set_option maxRecDepth 100000
set_option maxHeartbeats 4000000
namespace PySem
open Sem (wp)
open PyProof.Rows
section
end
end PySem
namespace DL
open PySem PySem.Spec PyProof.Rows L2
end DL
set_option Elab.async false
set_option linter.all false
set_option maxRecDepth 100000
set_option maxHeartbeats 4000000
namespace DL
open PySem PySem.Spec PyProof.Rows L2
section
end
section
open PySem.W (alike dataLt)
end
end DL
set_option Elab.async false
set_option linter.all false
set_option maxRecDepth 100000
set_option maxHeartbeats 2000000
namespace DL
open PySem PySem.Spec PyProof.Rows L2
end DL
set_option Elab.async false
set_option linter.all false
set_option maxRecDepth 100000
set_option maxHeartbeats 2000000
namespace DL
open PySem PySem.Spec PyProof.Rows L2
section
end
end DL
set_option Elab.async false
set_option linter.all false
set_option maxRecDepth 100000
set_option maxHeartbeats 4000000
namespace Sh
open PySem PySem.Spec PyProof.Rows L2 DL
/-- an end of a range -/
def rOk (j : Int) : Prop := -(2 ^ 62) ≤ j ∧ j < 2 ^ 62
theorem rOk_nat {t : Nat} (h : t < 2 ^ 40) : rOk (t : Int) := ⟨by omega, by omega⟩
section
variable (ρ : En) (f g h : Fe) (fs : Fa) (c c2 : Ft) (s s2 : Fst) (d : D)
@[simp] theorem s_fc : fc d ρ = some (.sh d, ρ) := id rfl
@[simp] theorem s_fop2 (o : D → D → Option OutV) : fop2 o f g ρ = (f ρ).bind fun x => (g x.2).bind fun y => (dat y.2 x.1).bind fun da => (dat y.2 y.1).bind fun db => (o da db).map fun o => (rvOf o, y.2) := id rfl
@[simp] theorem s_fop1 (o : D → Option OutV) : fop1 o f ρ = (f ρ).bind fun x => (dat x.2 x.1).bind fun da => (o da).map fun o => (rvOf o, x.2) := id rfl
@[simp] theorem s_fopA (o : List D → Option OutV) : fopA o fs ρ = (fs ρ).bind fun x => (datA x.2 x.1).bind fun ds => (o ds).map fun o => (rvOf o, x.2) := id rfl
@[simp] theorem s_fnil : fnil ρ = some ([], ρ) := id rfl
@[simp] theorem s_fcons : fcons f fs ρ = (f ρ).bind fun x => (fs x.2).bind fun y => some (x.1 :: y.1, y.2) := id rfl
@[simp] theorem s_ftup : ftup fs ρ = (fs ρ).bind fun x => (datA x.2 x.1).bind fun ds => (relA x.2 x.1).map fun ρ2 => (.sh (.tuple ds), ρ2) := id rfl
@[simp] theorem s_flst : flst fs ρ = (fs ρ).bind fun x => (datA x.2 x.1).bind fun ds => (relA x.2 x.1).map fun ρ2 => (.fr (.list ds), ρ2) := id rfl
@[simp] theorem s_fnotT : fnotT c ρ = (c ρ).map fun x => (!x.1, x.2) := id rfl
@[simp] theorem s_forT : forT c c2 ρ = (c ρ).bind fun x => if x.1 then some (true, x.2) else c2 x.2 := id rfl
@[simp] theorem s_fif : fif c f g ρ = (c ρ).bind fun x => if x.1 then f x.2 else g x.2 := id rfl
@[simp] theorem s_fnot : fnot f ρ = (fbool f ρ).map fun x => (.sh (.bool (!x.1)), x.2) := id rfl
@[simp] theorem s_fand : fand f g ρ = (fbool f ρ).bind fun x => if x.1 then g x.2 else some (.sh (.bool false), x.2) := id rfl
@[simp] theorem s_fseq : fseq s s2 ρ = (s ρ).bind fun o => match o with
  | .nx ρ1 => s2 ρ1
  | o => some o := id rfl
@[simp] theorem s_fskip : fskip ρ = some (.nx ρ) := id rfl
@[simp] theorem s_fdrop : fdrop f ρ = (f ρ).map fun x => .nx x.2 := id rfl
@[simp] theorem s_fret : fret f ρ = (f ρ).map fun x => .rt x.1 x.2 := id rfl
@[simp] theorem s_fifS : fifS c s s2 ρ = (c ρ).bind fun x => if x.1 then s x.2 else s2 x.2 := id rfl
@[simp] theorem s_fset (is : List Nat) : fset is fs ρ = (fs ρ).bind fun x => (datA x.2 x.1).bind fun ds => (relA x.2 x.1).bind fun ρ2 => (storeA is x.1 ds ρ2).map .nx := id rfl
@[simp] theorem s_f1 : f1 f ρ = (f ρ).map fun x => ([x.1], x.2) := id rfl
@[simp] theorem s_fasg (b : Fg) : fasg b f ρ = (f ρ).bind fun x => (dat x.2 x.1).bind fun d => (rel x.2 x.1).bind fun ρ2 => (b d ρ2).map .nx := id rfl
@[simp] theorem s_fcall (k : Option Nat) (F : FS) : fcall k F fs ρ = (fs ρ).bind fun x => (datA x.2 x.1).bind fun ds => (F ds).bind fun r => fcallEnd k x.1 x.2 r := id rfl
@[simp] theorem s_fcallEnd0 (rs : List RV) (r : FR) : fcallEnd none rs ρ r = (if atom r.d then some ρ else relA ρ rs).bind fun ρ2 => some (frOf r, ρ2) := by
  simp [fcallEnd, lone, setNo]
@[simp] theorem s_frOf0 (e : List D) : frOf ⟨false, d, e⟩ = .sh d := id rfl
@[simp] theorem s_frOf1 (e : List D) : frOf ⟨true, d, e⟩ = .fr d := id rfl
@[simp] theorem s_fslice (lo hi : Fo) : fslice f lo hi ρ = (f ρ).bind fun x => (lo x.2).bind fun y => (hi y.2).bind fun z => (dat z.2 x.1).bind fun d => (gSl d y.1 z.1).map fun o => (rvOf o, z.2) := id rfl
@[simp] theorem s_fonone : fonone ρ = some (none, ρ) := id rfl
@[simp] theorem s_ffor (gi : Fi) (b : Fg) : ffor gi b s ρ = (gi ρ).bind fun x => forD b s x.1 x.2 := id rfl
@[simp] theorem s_flc (own : List Nat) (gi : Fi) (b : Fg) : flc own gi b c f ρ = (gi ρ).bind fun x => if noOwn x.2 own then (lcD own b c f x.1 x.2 []).map fun y => (.fr (.list y.1), y.2) else none := id rfl
@[simp] theorem s_bname (i : Nat) : bname i d ρ = some (ρ.set i (some (.sh, d))) := id rfl
@[simp] theorem s_bcons (b : Fg) (bs : Fgs) (ds : List D) : bcons b bs (d :: ds) ρ = (b d ρ).bind fun ρ1 => bs ds ρ1 := id rfl
@[simp] theorem s_bnil : bnil [] ρ = some ρ := id rfl
@[simp] theorem s_btupT (n : Nat) (bs : Fgs) (ds : List D) : btup n bs (.tuple ds) ρ = if ds.length = n then bs ds ρ else none := id rfl
@[simp] theorem s_btupL (n : Nat) (bs : Fgs) (ds : List D) : btup n bs (.list ds) ρ = if ds.length = n then bs ds ρ else none := id rfl
@[simp] theorem s_fchain (o o' : D → D → Option OutV) : fchain o o' f g h ρ = (f ρ).bind fun x => (g x.2).bind fun y => (dat y.2 x.1).bind fun da => (dat y.2 y.1).bind fun db => (o da db).bind fun q => match q with
  | .it (.bool true) => (h y.2).bind fun z => (dat z.2 y.1).bind fun db => (dat z.2 z.1).bind fun dc => (o' db dc).map fun q => (rvOf q, z.2)
  | .it (.bool false) => some (.sh (.bool false), y.2)
  | _ => none := id rfl
end
@[simp] theorem rvOf_it (d : D) : rvOf (.it d) = .sh d := rfl
@[simp] theorem rvOf_nl (d : List D) : rvOf (.nl d) = .fr (.list d) := rfl
@[simp] theorem rvOf_nt (d : List D) : rvOf (.nt d) = .sh (.tuple d) := rfl
theorem forD_inv {b : Fg} {body : Fst} (I : Nat → En → Prop) : ∀ (ds : List D) (k : Nat) (ρ : En), I k ρ →
    (∀ (j : Nat) (d : D) (ρ : En), ds[j]? = some d → I (k + j) ρ → ∃ ρ1 ρ2, b d ρ = some ρ1 ∧ body ρ1 = some (.nx ρ2) ∧ I (k + j + 1) ρ2) →
    ∃ ρ', forD b body ds ρ = some (.nx ρ') ∧ I (k + ds.length) ρ'
  | [], k, ρ, h, _ => ⟨ρ, rfl, h⟩
  | d :: ds, k, ρ, h, st => by
    obtain ⟨ρ1, ρ2, e1, e2, h2⟩ := st 0 d ρ rfl h
    obtain ⟨ρ', e3, h3⟩ := forD_inv I ds (k + 1) ρ2 h2 fun j d ρ hj hI => by
      have := st (j + 1) d ρ (by simpa using hj) (by rwa [show k + (j + 1) = k + 1 + j by omega])
      rwa [show k + (j + 1) + 1 = k + 1 + j + 1 by omega] at this
    refine ⟨ρ', ?_, ?_⟩
    · simp only [forD, e1, e2, Option.bind_some, e3]
    · rwa [List.length_cons, show k + (ds.length + 1) = k + 1 + ds.length by omega]
theorem whileD_inv {c : Ft} {body : Fst} (I : Nat → En → Prop) (st : ∀ m ρ, I m ρ → ∃ ρ1, (c ρ = some (false, ρ1) ∧ I m ρ1) ∨ ∃ ρ2 m', c ρ = some (true, ρ1) ∧ body ρ1 = some (.nx ρ2) ∧ m' < m ∧ I m' ρ2) :
    ∀ (fuel m : Nat) (ρ : En), I m ρ → m < fuel → ∃ ρ' m' ρ1, whileD c body fuel ρ = some (.nx ρ') ∧ I m' ρ' ∧ m' ≤ m ∧ I m' ρ1 ∧ c ρ1 = some (false, ρ')
  | 0, m, ρ, _, h => absurd h (by omega)
  | fuel + 1, m, ρ, h, hf => by
    obtain ⟨ρ1, ⟨e1, h1⟩ | ⟨ρ2, m', e1, e2, h2, h3⟩⟩ := st m ρ h
    · exact ⟨ρ1, m, ρ, by simp [whileD, e1], h1, by omega, h, e1⟩
    · obtain ⟨ρ', m2, ρ3, e3, h4, h5, h6, h7⟩ := whileD_inv I st fuel m' ρ2 h3 (by omega)
      exact ⟨ρ', m2, ρ3, by simp [whileD, e1, e2, e3], h4, by omega, h6, h7⟩
/-- a comprehension that changes the state -/
theorem lcD_inv {own : List Nat} {b : Fg} {t : Ft} {elt : Fe} (I : Nat → En → Prop) (R : D → Prop) : ∀ (ds acc : List D) (k : Nat) (ρ : En), I k ρ → (∀ e ∈ acc, R e) →
    (∀ (j : Nat) (d : D) (ρ : En), ds[j]? = some d → I (k + j) ρ → ∃ ρ1 ρ2 r ρ3 ρ4 e, b d (wipeE ρ own) = some ρ1 ∧ t ρ1 = some (true, ρ2) ∧ elt ρ2 = some (r, ρ3) ∧ dat ρ3 r = some e ∧ rel ρ3 r = some ρ4 ∧ R e ∧ I (k + j + 1) (backE ρ ρ4 own)) →
    acc.length + ds.length ≤ 16777216 → ∃ es ρ', lcD own b t elt ds ρ acc = some (es, ρ') ∧ (∀ e ∈ es, R e) ∧ es.length = acc.length + ds.length ∧ I (k + ds.length) ρ'
  | [], acc, k, ρ, h, ha, _, _ => ⟨acc, ρ, rfl, ha, rfl, h⟩
  | d :: ds, acc, k, ρ, h, ha, st, hl => by
    obtain ⟨ρ1, ρ2, r, ρ3, ρ4, e, e1, e2, e3, e4, e5, he, h2⟩ := st 0 d ρ rfl h
    have hl' : acc.length + (ds.length + 1) ≤ 16777216 := hl
    obtain ⟨es, ρ', e6, h6, h7, h8⟩ := lcD_inv I R ds (acc ++ [e]) (k + 1) (backE ρ ρ4 own) h2 (by
      intro x hx
      rcases List.mem_append.mp hx with hx | hx
      · exact ha x hx
      · rw [List.mem_singleton.mp hx]; exact he) (fun j d ρ hj hI => by
      have := st (j + 1) d ρ (by simpa using hj) (by rwa [show k + (j + 1) = k + 1 + j by omega])
      rwa [show k + (j + 1) + 1 = k + 1 + j + 1 by omega] at this) (by simp; omega)
    refine ⟨es, ρ', ?_, h6, ?_, ?_⟩
    · simp only [lcD, e1, Option.bind_some, e2, if_true, e3, e4, e5, show acc.length < 16777216 by omega, e6]
    · rw [h7]; simp; omega
    · rwa [List.length_cons, show k + (ds.length + 1) = k + 1 + ds.length by omega]
theorem toF_of {np n : Nat} {bx : Option Nat} {f : Fst} {ds : List D} {o : Out} {r : FR} (h : f (en0 bx n ds) = some o) (hr : retO bx o = some r) (hl : ds.length = np := by rfl) : toF np n bx f ds = some r := by
  unfold toF
  rw [if_pos hl, h, Option.bind_some, hr]
theorem fseq_nx {s s2 : Fst} {ρ ρ1 : En} {o : Out} (h : s ρ = some (.nx ρ1)) (h2 : s2 ρ1 = some o) : fseq s s2 ρ = some o := by
  rw [s_fseq, h, Option.bind_some]; exact h2
theorem fret_of {f : Fe} {ρ ρ1 : En} {r : RV} (h : f ρ = some (r, ρ1)) : fret f ρ = some (.rt r ρ1) := by
  rw [s_fret, h, Option.map_some]
theorem fdrop_of {f : Fe} {ρ ρ1 : En} {r : RV} (h : f ρ = some (r, ρ1)) : fdrop f ρ = some (.nx ρ1) := by
  rw [s_fdrop, h, Option.map_some]
theorem ffor_of {gi : Fi} {b : Fg} {s : Fst} {ρ ρ1 : En} {ds : List D} {o : Out} (h : gi ρ = some (ds, ρ1)) (h2 : forD b s ds ρ1 = some o) : ffor gi b s ρ = some o := by
  rw [s_ffor, h, Option.bind_some]; exact h2
theorem flc_of {own : List Nat} {gi : Fi} {b : Fg} {t : Ft} {elt : Fe} {ρ ρ1 ρ2 : En} {ds es : List D} (h : gi ρ = some (ds, ρ1)) (h2 : lcD own b t elt ds ρ1 [] = some (es, ρ2)) (hn : noOwn ρ1 own = true := by rfl) : flc own gi b t elt ρ = some (.fr (.list es), ρ2) := by
  rw [s_flc, h, Option.bind_some]
  simp only [hn, if_true, h2, Option.map_some]
theorem firng1_of {fs : Fa} {ρ ρ1 : En} {rs : List RV} {t : Nat} (h : fs ρ = some (rs, ρ1)) (h2 : datA ρ1 rs = some [.int (t : Int)]) (ht : t < 2 ^ 40) : firng1 fs ρ = some (rgD 0 1 t, ρ1) := by
  have h3 : -(2 ^ 62) ≤ (t : Int) ∧ (t : Int) < 2 ^ 62 := rOk_nat ht
  unfold firng1
  rw [h, Option.bind_some, h2, Option.bind_some]
  show (if -(2 ^ 62) ≤ (t : Int) ∧ (t : Int) < 2 ^ 62 then some (rgD 0 1 (t : Int).toNat, ρ1) else none) = _
  rw [if_pos h3, Int.toNat_natCast]
theorem fmeth_of {j : Nat} {g : List D → List D → Option (D × List D)} {fs : Fa} {ρ ρ1 ρ2 : En} {fl0 fl : Fl} {d : D} {es0 : List D} {rs : List RV} {ds es es' : List D} (h : fs ρ = some (rs, ρ1)) (h2 : datA ρ1 rs = some ds) (h3 : relA ρ1 rs = some ρ2)
    (h5 : g es ds = some (d, es')) (h0 : ρ[j]? = some (some (fl0, .list es0)) := by rfl) (h4 : ρ2[j]? = some (some (fl, .list es)) := by rfl) (hf0 : fl0 ≠ .sh := by decide) (hfl : fl ≠ .sh := by decide) : fmeth j g fs ρ = some (.sh d, ρ2.set j (some (fl, .list es'))) := by
  unfold fmeth
  rw [h0]
  cases fl0 with
  | sh => exact absurd rfl hf0
  | ow | bx =>
    show fmeth1 j g fs ρ = _
    unfold fmeth1
    rw [h, Option.bind_some, h2, Option.bind_some, h3, Option.bind_some, h4]
    cases fl with
    | sh => exact absurd rfl hfl
    | ow | bx =>
      show (g es ds).map _ = _
      rw [h5]; rfl
theorem fcons_of {f : Fe} {fs : Fa} {ρ ρ1 ρ2 : En} {r : RV} {rs : List RV} (h : f ρ = some (r, ρ1)) (h2 : fs ρ1 = some (rs, ρ2)) : fcons f fs ρ = some (r :: rs, ρ2) := by
  rw [s_fcons, h, Option.bind_some, h2, Option.bind_some]
theorem fnil_of {ρ : En} : fnil ρ = some ([], ρ) := rfl
/-- a draw -/
theorem fcallB_of {F : FS} {fs : Fa} {ρ ρ1 : En} {rs : List RV} {ds bx bx0 : List D} {d : D} {fr : Bool} (h : fs ρ = some (.al 0 :: rs, ρ1)) (hd : datA ρ1 (.al 0 :: rs) = some ds) (hF : F ds = some ⟨fr, d, bx⟩) {ρ2 : En} (h2 : relA ρ1 rs = some ρ2) (h0 : ρ2[0]? = some (some (.bx, .list bx0)) := by rfl) (h1 : ρ1[0]? = some (some (.bx, .list bx0)) := by rfl) (ha : hasAl 0 rs = false := by rfl) : ∃ ρ3, (ρ3 = ρ1 ∧ atom d = true ∧ bx.all atom = true ∨ ρ3 = ρ2) ∧ fcall (some 0) F fs ρ = some (frOf ⟨fr, d, bx⟩, ρ3.set 0 (some (.bx, .list bx))) := by
  have hl : (if lone (some 0) ⟨fr, d, bx⟩ then some ρ1 else relA ρ1 (setNo (some 0) (.al 0 :: rs))) = some (if atom d && bx.all atom then ρ1 else ρ2) := by
    have e : lone (some 0) ⟨fr, d, bx⟩ = (atom d && bx.all atom) := by simp [lone]
    rw [e]
    cases atom d && bx.all atom with
    | true => rfl
    | false => exact h2
  refine ⟨if atom d && bx.all atom then ρ1 else ρ2, ?_, ?_⟩
  · by_cases hc : (atom d && bx.all atom) = true
    · rw [if_pos hc]
      rw [Bool.and_eq_true] at hc
      exact .inl ⟨rfl, hc⟩
    · rw [if_neg hc]; exact .inr rfl
  · have h3 : (if atom d && bx.all atom then ρ1 else ρ2)[0]? = some (some (.bx, .list bx0)) := by
      cases atom d && bx.all atom with
      | true => exact h1
      | false => exact h0
    have ha' : hasAl 0 ((.al 0 :: rs).set 0 (RV.sh .none)) = false := ha
    rw [s_fcall, h, Option.bind_some, hd, Option.bind_some, hF, Option.bind_some]
    unfold fcallEnd
    rw [hl, Option.bind_some]
    show (if hasAl 0 ((.al 0 :: rs).set 0 (RV.sh .none)) then none else _) = _
    rw [ha', if_neg (by decide), h3]
/-- a draw that returns an int and leaves ints -/
theorem fcallBi_of {F : FS} {fs : Fa} {ρ ρ1 : En} {rs : List RV} {ds bx bx0 : List D} {d : D} (h : fs ρ = some (.al 0 :: rs, ρ1)) (hd : datA ρ1 (.al 0 :: rs) = some ds) (hF : F ds = some ⟨false, d, bx⟩) (hl : atom d = true) (hb : bx.all atom = true) (h1 : ρ1[0]? = some (some (.bx, .list bx0)) := by rfl) (ha : hasAl 0 rs = false := by rfl) : fcall (some 0) F fs ρ = some (.sh d, ρ1.set 0 (some (.bx, .list bx))) := by
  have e : lone (some 0) ⟨false, d, bx⟩ = true := by simp only [lone, hl, hb, Bool.true_and, Bool.or_true]
  have ha' : hasAl 0 ((.al 0 :: rs).set 0 (RV.sh .none)) = false := ha
  rw [s_fcall, h, Option.bind_some, hd, Option.bind_some, hF, Option.bind_some]
  unfold fcallEnd
  rw [e, if_pos rfl, Option.bind_some]
  show (if hasAl 0 ((.al 0 :: rs).set 0 (RV.sh .none)) then none else _) = _
  rw [ha', if_neg (by decide), h1]
  rfl
theorem fcall0_of {F : FS} {fs : Fa} {ρ ρ1 : En} {rs : List RV} {ds : List D} {r : FR} (h : fs ρ = some (rs, ρ1)) (hd : datA ρ1 rs = some ds) (hF : F ds = some r) {ρ2 : En} (h2 : (if atom r.d then some ρ1 else relA ρ1 rs) = some ρ2) : fcall none F fs ρ = some (frOf r, ρ2) := by
  rw [s_fcall, h, Option.bind_some, hd, Option.bind_some, hF, Option.bind_some, s_fcallEnd0, h2, Option.bind_some]
theorem atI_nat {α : Type} (xs : List α) (i : Nat) : atI xs (i : Int) = xs[i]? := by
  unfold atI ixN
  rw [if_pos (by omega)]
  by_cases h : i < xs.length
  · rw [if_pos (by omega), Option.bind_some, Int.toNat_natCast]
  · rw [if_neg (by omega), Option.bind_none, List.getElem?_eq_none (by omega)]
theorem atI_int {α : Type} (xs : List α) {i : Int} {n : Nat} (h : i = (n : Int)) : atI xs i = xs[n]? := by rw [h, atI_nat]
theorem ixN_int {n i : Nat} {k : Int} (h : k = (i : Int)) (hi : i < n) : ixN n k = some i := by
  subst h
  unfold ixN
  rw [if_pos (by omega), if_pos (by omega), Int.toNat_natCast]
theorem atI_last {α : Type} (xs : List α) (x : α) : atI (xs ++ [x]) (-1) = some x := by
  unfold atI ixN
  rw [if_neg (by omega), if_pos (by simp; omega)]
  have : ((-1 : Int) + ((xs ++ [x]).length : Nat)).toNat = xs.length := by rw [List.length_append, List.length_singleton]; omega
  rw [Option.bind_some, this]; simp
theorem seqIx_int {n i : Nat} (hi : i < n) : seqIndex? (i : Int) n = some i := (ixN_seq (ixN_int rfl hi)).1
end Sh
set_option Elab.async false
set_option linter.all false
set_option maxRecDepth 100000
set_option maxHeartbeats 4000000
namespace Sh
open PySem PySem.Spec PyProof.Rows L2 DL
abbrev N (n : Nat) : D := PyData.int (n : Int)
abbrev sh (d : D) : Option (Fl × D) := some (Fl.sh, d)
abbrev ow (d : D) : Option (Fl × D) := some (Fl.ow, d)
abbrev bxs (d : D) : Option (Fl × D) := some (Fl.bx, d)
def Ex (f : Fe) (ρ : En) (Q : RV → En → Prop) : Prop := ∃ r ρ', f ρ = some (r, ρ') ∧ Q r ρ'
def ExA (f : Fa) (ρ : En) (Q : List RV → En → Prop) : Prop := ∃ r ρ', f ρ = some (r, ρ') ∧ Q r ρ'
def ExT (f : Ft) (ρ : En) (Q : Bool → En → Prop) : Prop := ∃ r ρ', f ρ = some (r, ρ') ∧ Q r ρ'
def ExI (f : Fi) (ρ : En) (Q : List D → En → Prop) : Prop := ∃ r ρ', f ρ = some (r, ρ') ∧ Q r ρ'
def ExO (f : Fo) (ρ : En) (Q : Option Int → En → Prop) : Prop := ∃ r ρ', f ρ = some (r, ρ') ∧ Q r ρ'
def ExG (f : Fg) (d : D) (ρ : En) (Q : En → Prop) : Prop := ∃ ρ', f d ρ = some ρ' ∧ Q ρ'
def ExGs (f : Fgs) (d : List D) (ρ : En) (Q : En → Prop) : Prop := ∃ ρ', f d ρ = some ρ' ∧ Q ρ'
def Kn (N : En → Prop) (R : RV → En → Prop) (B C : En → Prop) : Out → Prop
  | .nx ρ => N ρ
  | .rt r ρ => R r ρ
  | .bk ρ => B ρ
  | .ct ρ => C ρ
def St (s : Fst) (ρ : En) (N : En → Prop) (R : RV → En → Prop) (B C : En → Prop) : Prop := ∃ o, s ρ = some o ∧ Kn N R B C o
def Cl (F : FS) (ds : List D) (Q : FR → Prop) : Prop := ∃ r, F ds = some r ∧ Q r
theorem Cl.eq {F : FS} {ds : List D} {x : FR} (h : Cl F ds fun r => r = x) : F ds = some x := by
  obtain ⟨r, e, rfl⟩ := h; exact e
section
variable {ρ : En} {f g h : Fe} {fs : Fa} {c c2 : Ft} {s s2 : Fst} {d : D} {Q : RV → En → Prop} {QA : List RV → En → Prop} {QT : Bool → En → Prop} {QI : List D → En → Prop} {QO : Option Int → En → Prop} {QG : En → Prop}
  {Nx : En → Prop} {R : RV → En → Prop} {B C : En → Prop}
theorem ex_var_sh {i : Nat} (e : ρ[i]? = some (some (.sh, d))) (k : Q (.sh d) ρ) : Ex (fvar i) ρ Q := ⟨_, _, by unfold fvar; rw [e], k⟩
theorem ex_var_al {i : Nat} {fl : Fl} (e : ρ[i]? = some (some (fl, d))) (hf : fl ≠ .sh) (k : Q (.al i) ρ) : Ex (fvar i) ρ Q := ⟨_, _, by
  unfold fvar; rw [e]
  cases fl with
  | sh => exact absurd rfl hf
  | ow => rfl
  | bx => rfl, k⟩
theorem ex_fc (k : Q (.sh d) ρ) : Ex (fc d) ρ Q := ⟨_, _, rfl, k⟩
theorem ex_fc0 (k : Q (.sh (N 0)) ρ) : Ex (fc (.int 0)) ρ Q := ⟨_, _, rfl, k⟩
theorem ex_fc1 (k : Q (.sh (N 1)) ρ) : Ex (fc (.int 1)) ρ Q := ⟨_, _, rfl, k⟩
theorem ex_fc2 (k : Q (.sh (N 2)) ρ) : Ex (fc (.int 2)) ρ Q := ⟨_, _, rfl, k⟩
theorem ex_fc3 (k : Q (.sh (N 3)) ρ) : Ex (fc (.int 3)) ρ Q := ⟨_, _, rfl, k⟩
theorem ex_fc4 (k : Q (.sh (N 4)) ρ) : Ex (fc (.int 4)) ρ Q := ⟨_, _, rfl, k⟩
theorem ex_fc5 (k : Q (.sh (N 5)) ρ) : Ex (fc (.int 5)) ρ Q := ⟨_, _, rfl, k⟩
theorem ex_fc6 (k : Q (.sh (N 6)) ρ) : Ex (fc (.int 6)) ρ Q := ⟨_, _, rfl, k⟩
theorem ex_fc9 (k : Q (.sh (N 9)) ρ) : Ex (fc (.int 9)) ρ Q := ⟨_, _, rfl, k⟩
theorem ex_fc10 (k : Q (.sh (N 10)) ρ) : Ex (fc (.int 10)) ρ Q := ⟨_, _, rfl, k⟩
theorem ex_fc12 (k : Q (.sh (N 12)) ρ) : Ex (fc (.int 12)) ρ Q := ⟨_, _, rfl, k⟩
def Op2Q (o : D → D → Option OutV) (ρ : En) (r1 r2 : RV) (K : RV → Prop) : Prop := ∃ da db out, dat ρ r1 = some da ∧ dat ρ r2 = some db ∧ o da db = some out ∧ K (rvOf out)
theorem ex_op2 {o : D → D → Option OutV} (k : Ex f ρ fun r1 ρ1 => Ex g ρ1 fun r2 ρ2 => Op2Q o ρ2 r1 r2 fun r => Q r ρ2) : Ex (fop2 o f g) ρ Q := by
  obtain ⟨r1, ρ1, e1, r2, ρ2, e2, da, db, out, e3, e4, e5, k⟩ := k
  exact ⟨_, _, by simp only [s_fop2, e1, Option.bind_some, e2, e3, e4, e5, Option.map_some], k⟩
theorem op2_it {o : D → D → Option OutV} {r1 r2 : RV} {K : RV → Prop} {da db d : D} (e1 : dat ρ r1 = some da) (e2 : dat ρ r2 = some db) (e3 : o da db = some (.it d)) (k : K (.sh d)) : Op2Q o ρ r1 r2 K := ⟨_, _, _, e1, e2, e3, k⟩
theorem op2_nl {o : D → D → Option OutV} {r1 r2 : RV} {K : RV → Prop} {da db : D} {ds : List D} (e1 : dat ρ r1 = some da) (e2 : dat ρ r2 = some db) (e3 : o da db = some (.nl ds)) (k : K (.fr (.list ds))) : Op2Q o ρ r1 r2 K := ⟨_, _, _, e1, e2, e3, k⟩
def Op1Q (o : D → Option OutV) (ρ : En) (r1 : RV) (K : RV → Prop) : Prop := ∃ da out, dat ρ r1 = some da ∧ o da = some out ∧ K (rvOf out)
theorem ex_op1 {o : D → Option OutV} (k : Ex f ρ fun r1 ρ1 => Op1Q o ρ1 r1 fun r => Q r ρ1) : Ex (fop1 o f) ρ Q := by
  obtain ⟨r1, ρ1, e1, da, out, e3, e5, k⟩ := k
  exact ⟨_, _, by simp only [s_fop1, e1, Option.bind_some, e3, e5, Option.map_some], k⟩
theorem op1_it {o : D → Option OutV} {r1 : RV} {K : RV → Prop} {da d : D} (e1 : dat ρ r1 = some da) (e3 : o da = some (.it d)) (k : K (.sh d)) : Op1Q o ρ r1 K := ⟨_, _, e1, e3, k⟩
def OpAQ (o : List D → Option OutV) (ρ : En) (rs : List RV) (K : RV → Prop) : Prop := ∃ ds out, datA ρ rs = some ds ∧ o ds = some out ∧ K (rvOf out)
theorem ex_opA {o : List D → Option OutV} (k : ExA fs ρ fun rs ρ1 => OpAQ o ρ1 rs fun r => Q r ρ1) : Ex (fopA o fs) ρ Q := by
  obtain ⟨r1, ρ1, e1, da, out, e3, e5, k⟩ := k
  exact ⟨_, _, by simp only [s_fopA, e1, Option.bind_some, e3, e5, Option.map_some], k⟩
theorem opA_it {o : List D → Option OutV} {rs : List RV} {K : RV → Prop} {da : List D} {d : D} (e1 : datA ρ rs = some da) (e3 : o da = some (.it d)) (k : K (.sh d)) : OpAQ o ρ rs K := ⟨_, _, e1, e3, k⟩
theorem opA_nl {o : List D → Option OutV} {rs : List RV} {K : RV → Prop} {da : List D} {ds : List D} (e1 : datA ρ rs = some da) (e3 : o da = some (.nl ds)) (k : K (.fr (.list ds))) : OpAQ o ρ rs K := ⟨_, _, e1, e3, k⟩
theorem opA_nt {o : List D → Option OutV} {rs : List RV} {K : RV → Prop} {da : List D} {ds : List D} (e1 : datA ρ rs = some da) (e3 : o da = some (.nt ds)) (k : K (.sh (.tuple ds))) : OpAQ o ρ rs K := ⟨_, _, e1, e3, k⟩
theorem exa_nil (k : QA [] ρ) : ExA fnil ρ QA := ⟨_, _, rfl, k⟩
theorem exa_cons (k : Ex f ρ fun r ρ1 => ExA fs ρ1 fun rs ρ2 => QA (r :: rs) ρ2) : ExA (fcons f fs) ρ QA := by
  obtain ⟨r1, ρ1, e1, rs, ρ2, e2, k⟩ := k
  exact ⟨_, _, by simp only [s_fcons, e1, Option.bind_some, e2], k⟩
theorem exa_f1 (k : Ex f ρ fun r ρ1 => QA [r] ρ1) : ExA (f1 f) ρ QA := by
  obtain ⟨r1, ρ1, e1, k⟩ := k
  exact ⟨_, _, by simp only [s_f1, e1, Option.map_some], k⟩
def SeqQ (ρ : En) (rs : List RV) (K : List D → En → Prop) : Prop := ∃ ds ρ2, datA ρ rs = some ds ∧ relA ρ rs = some ρ2 ∧ K ds ρ2
theorem seqQ {ρ2 : En} {rs : List RV} {ds : List D} {K : List D → En → Prop} (e1 : datA ρ rs = some ds) (e2 : relA ρ rs = some ρ2) (k : K ds ρ2) : SeqQ ρ rs K := ⟨_, _, e1, e2, k⟩
theorem ex_tup (k : ExA fs ρ fun rs ρ1 => SeqQ ρ1 rs fun ds ρ2 => Q (.sh (.tuple ds)) ρ2) : Ex (ftup fs) ρ Q := by
  obtain ⟨rs, ρ1, e1, ds, ρ2, e2, e3, k⟩ := k
  exact ⟨_, _, by simp only [s_ftup, e1, Option.bind_some, e2, e3, Option.map_some], k⟩
theorem ex_lst (k : ExA fs ρ fun rs ρ1 => SeqQ ρ1 rs fun ds ρ2 => Q (.fr (.list ds)) ρ2) : Ex (flst fs) ρ Q := by
  obtain ⟨rs, ρ1, e1, ds, ρ2, e2, e3, k⟩ := k
  exact ⟨_, _, by simp only [s_flst, e1, Option.bind_some, e2, e3, Option.map_some], k⟩
def Imp (t : Bool) (P : Prop) : Prop := t = true → P
def ImpF (t : Bool) (P : Prop) : Prop := t = false → P
theorem imp {t : Bool} {P : Prop} (h : t = true → P) : Imp t P := h
theorem impF {t : Bool} {P : Prop} (h : t = false → P) : ImpF t P := h
def SamQ (ρ1 ρ : En) (P : Prop) : Prop := ρ1 = ρ ∧ P
theorem samQ {ρ : En} {P : Prop} (h : P) : SamQ ρ ρ P := ⟨rfl, h⟩
def EqQ (q r : RV) (P : Prop) : Prop := q = r ∧ P
theorem eqQ {q : RV} {P : Prop} (h : P) : EqQ q q P := ⟨rfl, h⟩
def BoolQ (r : RV) (K : Bool → Prop) : Prop := ∃ b, r = .sh (.bool b) ∧ K b
theorem boolQ {b : Bool} {K : Bool → Prop} (k : K b) : BoolQ (.sh (.bool b)) K := ⟨b, rfl, k⟩
theorem ext_bool (k : Ex f ρ fun r ρ1 => BoolQ r fun b => QT b ρ1) : ExT (fbool f) ρ QT := by
  obtain ⟨r, ρ1, e1, b, rfl, k⟩ := k
  exact ⟨_, _, by simp only [fbool, e1, Option.bind_some], k⟩
theorem ext_not (k : ExT c ρ fun t ρ1 => QT (!t) ρ1) : ExT (fnotT c) ρ QT := by
  obtain ⟨r, ρ1, e1, k⟩ := k
  exact ⟨_, _, by simp only [s_fnotT, e1, Option.map_some], k⟩
theorem ext_true (k : QT true ρ) : ExT ftrue ρ QT := ⟨_, _, rfl, k⟩
theorem ext_or {t1 t2 : Bool} (h1 : ExT c ρ fun t ρ1 => t = t1 ∧ ρ1 = ρ) (h2 : ImpF t1 (ExT c2 ρ fun t ρ1 => t = t2 ∧ ρ1 = ρ)) (k : QT (t1 || t2) ρ) : ExT (forT c c2) ρ QT := by
  obtain ⟨u, _, e1, e0, rfl⟩ := h1
  subst e0
  cases u with
  | true => exact ⟨true, _, by simp only [s_forT, e1, Option.bind_some, if_true], k⟩
  | false =>
    obtain ⟨_, _, e2, rfl, rfl⟩ := h2 rfl
    exact ⟨_, _, by simp only [s_forT, e1, Option.bind_some, Bool.false_eq_true, if_false]; exact e2, by simpa using k⟩
theorem ex_and {t1 t2 : Bool} (h1 : ExT (fbool f) ρ fun t ρ1 => t = t1 ∧ ρ1 = ρ) (h2 : Imp t1 (ExT (fbool g) ρ fun t ρ1 => t = t2 ∧ ρ1 = ρ)) (k : Q (.sh (.bool (t1 && t2))) ρ) : Ex (fand f g) ρ Q := by
  obtain ⟨u, _, e1, e0, rfl⟩ := h1
  subst e0
  cases u with
  | false => exact ⟨_, _, by simp only [s_fand, e1, Option.bind_some, Bool.false_eq_true, if_false]; rfl, k⟩
  | true =>
    obtain ⟨u2, ρ, e2, e02, e01⟩ := h2 rfl
    subst e02
    subst e01
    have e3 : g ρ = some (.sh (.bool u2), ρ) := by
      simp only [fbool, Option.bind_eq_some_iff] at e2
      obtain ⟨⟨r, ρ2⟩, e4, e5⟩ := e2
      match r, e5 with
      | .sh (.bool b), e5 => cases e5; exact e4
    exact ⟨_, _, by simp only [s_fand, e1, Option.bind_some, if_true]; exact e3, by simpa using k⟩
theorem ex_not (k : ExT (fbool f) ρ fun t ρ1 => Q (.sh (.bool (!t))) ρ1) : Ex (fnot f) ρ Q := by
  obtain ⟨r, ρ1, e1, k⟩ := k
  exact ⟨_, _, by simp only [s_fnot, e1, Option.map_some], k⟩
/-- two ways -/
def Two (t : Bool) (A B : Prop) : Prop := (t = true → A) ∧ (t = false → B)
theorem two_t {t : Bool} {A B : Prop} (e : t = true) (k : A) : Two t A B := ⟨fun _ => k, fun h => (by rw [e] at h; cases h)⟩
theorem two_f {t : Bool} {A B : Prop} (e : t = false) (k : B) : Two t A B := ⟨fun h => (by rw [e] at h; cases h), fun _ => k⟩
theorem two_d {P : Prop} {i : Decidable P} {A B : Prop} (ka : P → A) (kb : ¬ P → B) : Two (decide P) A B := ⟨fun h => ka (of_decide_eq_true h), fun h => kb (of_decide_eq_false h)⟩
theorem two_n {P : Prop} {i : Decidable P} {A B : Prop} (ka : ¬ P → A) (kb : P → B) : Two (!decide P) A B := ⟨fun h => ka (by simpa using h), fun h => kb (by simpa using h)⟩
theorem two_g {t : Bool} {A B : Prop} (ka : t = true → A) (kb : t = false → B) : Two t A B := ⟨ka, kb⟩
theorem ex_if (k : ExT c ρ fun t ρ1 => Two t (Ex f ρ1 Q) (Ex g ρ1 Q)) : Ex (fif c f g) ρ Q := by
  obtain ⟨t, ρ1, e1, k⟩ := k
  cases t with
  | true =>
    obtain ⟨r, ρ2, e2, k⟩ := k.1 rfl
    exact ⟨_, _, by simp only [s_fif, e1, Option.bind_some, if_true]; exact e2, k⟩
  | false =>
    obtain ⟨r, ρ2, e2, k⟩ := k.2 rfl
    exact ⟨_, _, by simp only [s_fif, e1, Option.bind_some, Bool.false_eq_true, if_false]; exact e2, k⟩
def ChQ (o : D → D → Option OutV) (ρ : En) (r1 r2 : RV) (K : Bool → Prop) : Prop := ∃ da db b, dat ρ r1 = some da ∧ dat ρ r2 = some db ∧ o da db = some (.it (.bool b)) ∧ K b
theorem chQ {o : D → D → Option OutV} {r1 r2 : RV} {K : Bool → Prop} {da db : D} {b : Bool} (e1 : dat ρ r1 = some da) (e2 : dat ρ r2 = some db) (e3 : o da db = some (.it (.bool b))) (k : K b) : ChQ o ρ r1 r2 K := ⟨_, _, _, e1, e2, e3, k⟩
/-- a chain of two comparisons, the state alone -/
theorem ex_chain {o o' : D → D → Option OutV} {t1 t2 : Bool} {r2 : RV} (h1 : Ex f ρ fun r1 ρ1 => SamQ ρ1 ρ (Ex g ρ fun q ρ2 => EqQ q r2 (SamQ ρ2 ρ (ChQ o ρ r1 r2 fun b => b = t1))))
    (h2 : Imp t1 (Ex h ρ fun r3 ρ3 => SamQ ρ3 ρ (ChQ o' ρ r2 r3 fun b => b = t2))) (k : Q (.sh (.bool (t1 && t2))) ρ) : Ex (fchain o o' f g h) ρ Q := by
  obtain ⟨r1, _, e1, rfl, _, _, e2, rfl, rfl, da, db, b, e3, e4, e5, rfl⟩ := h1
  cases b with
  | false => exact ⟨_, _, by simp only [s_fchain, e1, Option.bind_some, e2, e3, e4, e5]; rfl, k⟩
  | true =>
    obtain ⟨r3, ρ, e6, e0, dc, dd, b', e7, e8, e9, e0'⟩ := h2 rfl
    subst e0
    subst e0'
    cases e4.symm.trans e7
    exact ⟨_, ρ, by simp only [s_fchain, e1, Option.bind_some, e2, e3, e4, e5, e6, e7, e8, e9, Option.map_some, rvOf_it]; rfl, k⟩
def CallQ (F : FS) (ρ : En) (rs : List RV) (K : RV → En → Prop) : Prop := ∃ ds r ρ2, datA ρ rs = some ds ∧ F ds = some r ∧ (if atom r.d then some ρ else relA ρ rs) = some ρ2 ∧ K (frOf r) ρ2
theorem ex_call {F : FS} (k : ExA fs ρ fun rs ρ1 => CallQ F ρ1 rs Q) : Ex (fcall none F fs) ρ Q := by
  obtain ⟨rs, ρ1, e1, ds, r, ρ2, e2, e3, e4, k⟩ := k
  exact ⟨_, _, by simp only [s_fcall, e1, Option.bind_some, e2, e3, s_fcallEnd0, e4], k⟩
theorem callQ_sh {F : FS} {rs : List RV} {K : RV → En → Prop} {ds es : List D} {ρ2 : En} (e1 : datA ρ rs = some ds) (e2 : F ds = some ⟨false, d, es⟩) (e3 : (if atom d then some ρ else relA ρ rs) = some ρ2) (k : K (.sh d) ρ2) : CallQ F ρ rs K := ⟨_, _, _, e1, e2, e3, k⟩
theorem callQ_fr {F : FS} {rs : List RV} {K : RV → En → Prop} {ds es : List D} {ρ2 : En} (e1 : datA ρ rs = some ds) (e2 : F ds = some ⟨true, d, es⟩) (e3 : (if atom d then some ρ else relA ρ rs) = some ρ2) (k : K (.fr d) ρ2) : CallQ F ρ rs K := ⟨_, _, _, e1, e2, e3, k⟩
/-- a call that draws: the source is at the slot j -/
theorem ex_callB {F : FS} (k : ExA fs ρ fun rs ρ1 => ∃ ds r q, datA ρ1 rs = some ds ∧ F ds = some r ∧ fcallEnd (some 0) rs ρ1 r = some q ∧ Q q.1 q.2) : Ex (fcall (some 0) F fs) ρ Q := by
  obtain ⟨rs, ρ1, e1, ds, r, q, e2, e3, e4, k⟩ := k
  exact ⟨_, _, by simp only [s_fcall, e1, Option.bind_some, e2, e3, e4], k⟩
def SqQ (ρ : En) (r : RV) (K : List D → En → Prop) : Prop := ∃ ds ρ2, (dat ρ r = some (.list ds) ∨ dat ρ r = some (.tuple ds)) ∧ rel ρ r = some ρ2 ∧ K ds ρ2
theorem sqQ_l {ρ2 : En} {r : RV} {ds : List D} {K : List D → En → Prop} (e1 : dat ρ r = some (.list ds)) (e2 : rel ρ r = some ρ2) (k : K ds ρ2) : SqQ ρ r K := ⟨_, _, .inl e1, e2, k⟩
theorem sqQ_t {ρ2 : En} {r : RV} {ds : List D} {K : List D → En → Prop} (e1 : dat ρ r = some (.tuple ds)) (e2 : rel ρ r = some ρ2) (k : K ds ρ2) : SqQ ρ r K := ⟨_, _, .inr e1, e2, k⟩
theorem exi_seq (k : Ex f ρ fun r ρ1 => SqQ ρ1 r QI) : ExI (fiseq f) ρ QI := by
  obtain ⟨r, ρ1, e1, ds, ρ2, e2, e3, k⟩ := k
  rcases e2 with e2 | e2
  · exact ⟨_, _, by simp only [fiseq, e1, Option.bind_some, e2, e3], k⟩
  · exact ⟨_, _, by simp only [fiseq, e1, Option.bind_some, e2, e3], k⟩
def DatQ (ρ : En) (rs : List RV) (K : List D → Prop) : Prop := ∃ ds, datA ρ rs = some ds ∧ K ds
theorem datQ {rs : List RV} {ds : List D} {K : List D → Prop} (e1 : datA ρ rs = some ds) (k : K ds) : DatQ ρ rs K := ⟨_, e1, k⟩
def Rg1 (ds : List D) (K : List D → Prop) : Prop := ∃ j : Int, ds = [.int j] ∧ -(2 ^ 62) ≤ j ∧ j < 2 ^ 62 ∧ K (rgD 0 1 j.toNat)
theorem rgN (a n : Nat) : rgD (a : Int) 1 n = (List.range n).map fun i => N (a + i) := by
  unfold rgD
  apply List.map_congr_left
  intro i _
  show PyData.int ((a : Int) + (i : Int) * 1) = PyData.int ((a + i : Nat) : Int)
  congr 1; omega
theorem rg1 {n : Nat} {K : List D → Prop} (h : n < 2 ^ 40) (k : K ((List.range n).map N)) : Rg1 [N n] K := ⟨n, rfl, by omega, by omega, by
  have := rgN 0 n
  simp only [Nat.zero_add] at this
  rw [show (0 : Int) = ((0 : Nat) : Int) from rfl, Int.toNat_natCast, this]; exact k⟩
theorem exi_rng1 (k : ExA fs ρ fun rs ρ1 => DatQ ρ1 rs fun ds => Rg1 ds fun es => QI es ρ1) : ExI (firng1 fs) ρ QI := by
  obtain ⟨rs, ρ1, e1, ds, e2, j, rfl, h1, h2, k⟩ := k
  refine ⟨_, _, ?_, k⟩
  unfold firng1
  rw [e1, Option.bind_some, e2, Option.bind_some]
  show (if -(2 ^ 62) ≤ j ∧ j < 2 ^ 62 then some (rgD 0 1 j.toNat, ρ1) else none) = _
  rw [if_pos ⟨h1, h2⟩]
theorem exi_zip (k : ExA fs ρ fun rs ρ1 => SeqQ ρ1 rs fun ds ρ2 => ∃ xs ys, (ds = [.list xs, .list ys] ∨ ds = [.tuple xs, .tuple ys]) ∧ QI (zipD xs ys) ρ2) : ExI (fizip fs) ρ QI := by
  obtain ⟨rs, ρ1, e1, ds, ρ2, e2, e3, xs, ys, e4, k⟩ := k
  rcases e4 with rfl | rfl
  · exact ⟨_, _, by simp only [fizip, e1, Option.bind_some, e2, e3], k⟩
  · exact ⟨_, _, by simp only [fizip, e1, Option.bind_some, e2, e3], k⟩
def Lr1 (ρ : En) (r : RV) (K : List D → Prop) : Prop := ∃ n, dat ρ r = some (N n) ∧ n ≤ 16777216 ∧ K ((List.range n).map N)
theorem lr1 {r : RV} {n : Nat} {K : List D → Prop} (e : dat ρ r = some (N n)) (h : n ≤ 16777216) (k : K ((List.range n).map N)) : Lr1 ρ r K := ⟨n, e, h, k⟩
theorem ex_lrg1 (k : Ex f ρ fun r ρ1 => Lr1 ρ1 r fun ds => Q (.fr (.list ds)) ρ1) : Ex (flrg1 f) ρ Q := by
  obtain ⟨r, ρ1, e1, n, e2, h, k⟩ := k
  refine ⟨_, _, ?_, k⟩
  have hc : -(2 ^ 62) ≤ (n : Int) ∧ (n : Int) ≤ 16777216 := by omega
  unfold flrg1
  rw [e1, Option.bind_some]
  simp only [e2]
  rw [if_pos hc, Int.toNat_natCast]
  have := rgN 0 n
  simp only [Nat.zero_add] at this
  rw [show (0 : Int) = ((0 : Nat) : Int) from rfl, this]
def Lr2 (ρ : En) (r r2 : RV) (K : List D → Prop) : Prop := ∃ a n, dat ρ r = some (N a) ∧ dat ρ r2 = some (N n) ∧ a ≤ 16777216 ∧ n ≤ 16777216 ∧ K ((List.range (n - a)).map fun i => N (a + i))
theorem lr2 {r r2 : RV} {a n : Nat} {K : List D → Prop} (e : dat ρ r = some (N a)) (e2 : dat ρ r2 = some (N n)) (h : a ≤ 16777216) (h2 : n ≤ 16777216) (k : K ((List.range (n - a)).map fun i => N (a + i))) : Lr2 ρ r r2 K := ⟨a, n, e, e2, h, h2, k⟩
theorem ex_lrg2 (k : Ex f ρ fun r ρ1 => Ex g ρ1 fun r2 ρ2 => Lr2 ρ2 r r2 fun ds => Q (.fr (.list ds)) ρ2) : Ex (flrg2 f g) ρ Q := by
  obtain ⟨r, ρ1, e1, r2, ρ2, e2, a, n, e3, e4, h1, h2, k⟩ := k
  refine ⟨_, _, ?_, k⟩
  have hc : 0 ≤ (a : Int) ∧ (a : Int) ≤ 16777216 ∧ -(2 ^ 62) ≤ (n : Int) ∧ (n : Int) ≤ 16777216 := by omega
  unfold flrg2
  rw [e1, Option.bind_some, e2, Option.bind_some]
  simp only [e3, e4]
  rw [if_pos hc, show ((n : Int) - (a : Int)).toNat = n - a by omega, rgN]
theorem exo_none (k : QO none ρ) : ExO fonone ρ QO := ⟨_, _, rfl, k⟩
def IntQ (ρ : En) (r : RV) (K : Int → Prop) : Prop := ∃ i, dat ρ r = some (.int i) ∧ K i
theorem intQ {r : RV} {i : Int} {K : Int → Prop} (e : dat ρ r = some (.int i)) (k : K i) : IntQ ρ r K := ⟨i, e, k⟩
theorem exo_some (k : Ex f ρ fun r ρ1 => IntQ ρ1 r fun i => QO (some i) ρ1) : ExO (fosome f) ρ QO := by
  obtain ⟨r, ρ1, e1, i, e2, k⟩ := k
  exact ⟨_, _, by simp only [fosome, e1, Option.bind_some, e2], k⟩
def SlQ (ρ : En) (r : RV) (lo hi : Option Int) (K : RV → Prop) : Prop := ∃ d out, dat ρ r = some d ∧ gSl d lo hi = some out ∧ K (rvOf out)
theorem ex_slice {lo hi : Fo} (k : Ex f ρ fun r ρ1 => ExO lo ρ1 fun l ρ2 => ExO hi ρ2 fun h ρ3 => SlQ ρ3 r l h fun r => Q r ρ3) : Ex (fslice f lo hi) ρ Q := by
  obtain ⟨r, ρ1, e1, l, ρ2, e2, h, ρ3, e3, d, out, e4, e5, k⟩ := k
  exact ⟨_, _, by simp only [s_fslice, e1, Option.bind_some, e2, e3, e4, e5, Option.map_some], k⟩
theorem exg_name {i : Nat} (k : QG (ρ.set i (some (.sh, d)))) : ExG (bname i) d ρ QG := ⟨_, rfl, k⟩
theorem exg_tupT {n : Nat} {bs : Fgs} {ds : List D} (e : ds.length = n) (k : ExGs bs ds ρ QG) : ExG (btup n bs) (.tuple ds) ρ QG := by
  obtain ⟨ρ', e1, k⟩ := k
  exact ⟨_, by rw [s_btupT, if_pos e]; exact e1, k⟩
theorem exg_tupL {n : Nat} {bs : Fgs} {ds : List D} (e : ds.length = n) (k : ExGs bs ds ρ QG) : ExG (btup n bs) (.list ds) ρ QG := by
  obtain ⟨ρ', e1, k⟩ := k
  exact ⟨_, by rw [s_btupL, if_pos e]; exact e1, k⟩
theorem exgs_nil (k : QG ρ) : ExGs bnil [] ρ QG := ⟨_, rfl, k⟩
theorem exgs_cons {b : Fg} {bs : Fgs} {ds : List D} (k : ExG b d ρ fun ρ1 => ExGs bs ds ρ1 QG) : ExGs (bcons b bs) (d :: ds) ρ QG := by
  obtain ⟨ρ1, e1, ρ2, e2, k⟩ := k
  exact ⟨_, by rw [s_bcons, e1, Option.bind_some]; exact e2, k⟩
theorem st_seq (k : St s ρ (fun ρ1 => St s2 ρ1 Nx R B C) R B C) : St (fseq s s2) ρ Nx R B C := by
  obtain ⟨o, e1, k⟩ := k
  cases o with
  | nx ρ1 =>
    obtain ⟨o2, e2, k⟩ := k
    exact ⟨o2, by rw [s_fseq, e1, Option.bind_some]; exact e2, k⟩
  | rt r ρ1 => exact ⟨.rt r ρ1, by rw [s_fseq, e1, Option.bind_some], k⟩
  | bk ρ1 => exact ⟨.bk ρ1, by rw [s_fseq, e1, Option.bind_some], k⟩
  | ct ρ1 => exact ⟨.ct ρ1, by rw [s_fseq, e1, Option.bind_some], k⟩
theorem st_skip (k : Nx ρ) : St fskip ρ Nx R B C := ⟨_, rfl, k⟩
theorem st_drop (k : Ex f ρ fun _ ρ1 => Nx ρ1) : St (fdrop f) ρ Nx R B C := by
  obtain ⟨r, ρ1, e, k⟩ := k
  exact ⟨.nx ρ1, by rw [s_fdrop, e]; rfl, k⟩
theorem st_ret (k : Ex f ρ R) : St (fret f) ρ Nx R B C := by
  obtain ⟨r, ρ1, e, k⟩ := k
  exact ⟨.rt r ρ1, by rw [s_fret, e]; rfl, k⟩
theorem st_if (k : ExT c ρ fun t ρ1 => Two t (St s ρ1 Nx R B C) (St s2 ρ1 Nx R B C)) : St (fifS c s s2) ρ Nx R B C := by
  obtain ⟨t, ρ1, e1, k⟩ := k
  cases t with
  | true =>
    obtain ⟨o, e2, k⟩ := k.1 rfl
    exact ⟨o, by rw [s_fifS, e1, Option.bind_some]; exact e2, k⟩
  | false =>
    obtain ⟨o, e2, k⟩ := k.2 rfl
    exact ⟨o, by rw [s_fifS, e1, Option.bind_some]; exact e2, k⟩
def SetQ (is : List Nat) (ρ : En) (rs : List RV) (K : En → Prop) : Prop := ∃ ds ρ2 ρ3, datA ρ rs = some ds ∧ relA ρ rs = some ρ2 ∧ storeA is rs ds ρ2 = some ρ3 ∧ K ρ3
theorem setQ {is : List Nat} {rs : List RV} {ds : List D} {ρ2 ρ3 : En} {K : En → Prop} (e1 : datA ρ rs = some ds) (e2 : relA ρ rs = some ρ2) (e3 : storeA is rs ds ρ2 = some ρ3) (k : K ρ3) : SetQ is ρ rs K := ⟨_, _, _, e1, e2, e3, k⟩
theorem st_set {is : List Nat} (k : ExA fs ρ fun rs ρ1 => SetQ is ρ1 rs Nx) : St (fset is fs) ρ Nx R B C := by
  obtain ⟨rs, ρ1, e1, ds, ρ2, ρ3, e2, e3, e4, k⟩ := k
  exact ⟨.nx ρ3, by rw [s_fset, e1, Option.bind_some, e2, Option.bind_some, e3, Option.bind_some, e4]; rfl, k⟩
def AsgQ (b : Fg) (ρ : En) (r : RV) (K : En → Prop) : Prop := ∃ d ρ2, dat ρ r = some d ∧ rel ρ r = some ρ2 ∧ ExG b d ρ2 K
theorem asgQ {b : Fg} {r : RV} {ρ2 : En} {K : En → Prop} (e1 : dat ρ r = some d) (e2 : rel ρ r = some ρ2) (k : ExG b d ρ2 K) : AsgQ b ρ r K := ⟨_, _, e1, e2, k⟩
theorem st_asg {b : Fg} (k : Ex f ρ fun r ρ1 => AsgQ b ρ1 r Nx) : St (fasg b f) ρ Nx R B C := by
  obtain ⟨r, ρ1, e1, d, ρ2, e2, e3, ρ3, e4, k⟩ := k
  exact ⟨.nx ρ3, by rw [s_fasg, e1, Option.bind_some, e2, Option.bind_some, e3, Option.bind_some, e4]; rfl, k⟩
/-- methods that change a list -/
def MethQ (j : Nat) (g : List D → List D → Option (D × List D)) (ρ : En) (rs : List RV) (K : RV → En → Prop) : Prop := ∃ ds ρ2 fl es x, datA ρ rs = some ds ∧ relA ρ rs = some ρ2 ∧ ρ2[j]? = some (some (fl, .list es)) ∧ fl ≠ .sh ∧ g es ds = some x ∧ K (.sh x.1) (ρ2.set j (some (fl, .list x.2)))
theorem methQ {j : Nat} {g : List D → List D → Option (D × List D)} {rs : List RV} {K : RV → En → Prop} {ds es es' : List D} {ρ2 : En} {fl : Fl} (e1 : datA ρ rs = some ds) (e2 : relA ρ rs = some ρ2) (e3 : ρ2[j]? = some (some (fl, .list es))) (hf : fl ≠ .sh) (e4 : g es ds = some (d, es')) (k : K (.sh d) (ρ2.set j (some (fl, .list es')))) : MethQ j g ρ rs K :=
  ⟨_, _, _, _, _, e1, e2, e3, hf, e4, k⟩
theorem ex_meth {j : Nat} {g : List D → List D → Option (D × List D)} {fl0 : Fl} {es0 : List D} (e0 : ρ[j]? = some (some (fl0, .list es0))) (hf0 : fl0 ≠ .sh) (k : ExA fs ρ fun rs ρ1 => MethQ j g ρ1 rs Q) : Ex (fmeth j g fs) ρ Q := by
  obtain ⟨rs, ρ1, e1, ds, ρ2, fl, es, x, e2, e3, e4, hf, e5, k⟩ := k
  exact ⟨_, _, by
    unfold fmeth
    rw [e0]
    have : fmeth1 j g fs ρ = some (.sh x.1, ρ2.set j (some (fl, .list x.2))) := by
      unfold fmeth1
      rw [e1, Option.bind_some, e2, Option.bind_some, e3, Option.bind_some, e4]
      cases fl with
      | sh => exact absurd rfl hf
      | ow | bx =>
        show (g es ds).map _ = _
        rw [e5]; rfl
    cases fl0 with
    | sh => exact absurd rfl hf0
    | ow => exact this
    | bx => exact this, k⟩
def RetQ (bx : Option Nat) (ρ : En) (r : RV) (Q : FR → Prop) : Prop := ∃ x es, retD ρ r = some x ∧ bxOf bx ρ = some es ∧ Q ⟨x.1, x.2, es⟩
theorem retQ {bx : Option Nat} {r : RV} {fr : Bool} {es : List D} {Q : FR → Prop} (e1 : retD ρ r = some (fr, d)) (e2 : bxOf bx ρ = some es) (k : Q ⟨fr, d, es⟩) : RetQ bx ρ r Q := ⟨_, _, e1, e2, k⟩
theorem cl_toF {np n : Nat} {bx : Option Nat} {ds : List D} {Q : FR → Prop} {ρ0 : En} (e0 : en0 bx n ds = ρ0) (hl : ds.length = np) (k : St s ρ0 (fun ρ => RetQ bx ρ (.sh .none) Q) (fun r ρ => RetQ bx ρ r Q) (fun _ => False) fun _ => False) : Cl (toF np n bx s) ds Q := by
  subst e0
  obtain ⟨o, e, k⟩ := k
  have go : ∀ r, (retO bx o) = some r → Q r → Cl (toF np n bx s) ds Q := fun r e2 q => ⟨r, by unfold toF; rw [if_pos hl, e, Option.bind_some, e2], q⟩
  cases o with
  | nx ρ =>
    obtain ⟨x, es, e1, e2, k⟩ := k
    cases e1
    exact go _ (by simp only [retO, e2, Option.map_some]) k
  | rt r ρ =>
    obtain ⟨x, es, e1, e2, k⟩ := k
    exact go _ (by simp only [retO, e1, Option.bind_some, e2, Option.map_some]) k
  | bk ρ => exact k.elim
  | ct ρ => exact k.elim
end
end Sh
set_option Elab.async false
set_option linter.all false
set_option maxRecDepth 100000
set_option maxHeartbeats 4000000
namespace Sh
open PySem PySem.Spec PyProof.Rows L2 DL
def F_law_cells : FS := toF 2 5 none (fseq (fset [2] (f1 (fopA gList (fcons (fslice (fvar 0) fonone (fosome (fvar 1))) fnil))))
    (fseq (ffor (fien (fslice (fvar 0) (fosome (fvar 1)) (fosome (fc (.int 63))))) (btup 2 (bcons (bname 3) (bcons (bname 4) bnil))) (fasg (bsub 2 (fop2 gMod (fvar 3) (fvar 1))) (fop2 gAdd (fop2 gIx (fvar 2) (fop2 gMod (fvar 3) (fvar 1))) (fop2 gMul (fvar 4) (fop2 gAdd (fvar 3) (fc (.int 2)))))))
    (fret (fif (fbool (fop2 gNe (fvar 2) (flst fnil))) (fvar 2) (flst (fcons (fc (.int 0)) fnil))))))
def F_law_box : FS := toF 2 3 none (fseq (fset [2] (f1 (fif (fbool (fop2 gLt (fvar 1) (fopA gLen (fcons (fvar 0) fnil)))) (fop2 gIx (fvar 0) (fvar 1)) (fc (.int 0)))))
    (fret (flst (fcons (fop2 gMul (fopA gAbs (fcons (fvar 2) fnil)) (fopA gInt (fcons (fop2 gGe (fopA gAbs (fcons (fvar 2) fnil)) (fop2 gPow (fc (.int 10)) (fc (.int 18)))) fnil))) (fcons (fop2 gAdd (fop2 gAdd (fop2 gMod (fvar 2) (fc (.int 2305843009213693951))) (fop2 gMul (fc (.int 7919)) (fvar 1))) (fc (.int 41))) (fcons (fc (.int 0)) fnil))))))
def F_law_take : Nat → FS
  | 0 => fun _ => none
  | m + 1 => toF 2 4 (some 0) (fseq (fifS (fbool (fop2 gGt (fop2 gIx (fvar 0) (fc (.int 0))) (fc (.int 0)))) (fseq (fset [2] (f1 (fop2 gMod (fop2 gIx (fvar 0) (fc (.int 0))) (fvar 1))))
    (fseq (fasg (bsub 0 (fc (.int 0))) (fop2 gFdiv (fop2 gIx (fvar 0) (fc (.int 0))) (fvar 1)))
    (fret (fvar 2)))) fskip)
    (fseq (fifS (fbool (fop2 gGt (fvar 1) (fop2 gPow (fc (.int 10)) (fc (.int 7))))) (fret (fop2 gMod (fop2 gAdd (fcall (some 0) (F_law_take m) (fcons (fvar 0) (fcons (fop2 gPow (fc (.int 10)) (fc (.int 7))) fnil))) (fop2 gMul (fop2 gPow (fc (.int 10)) (fc (.int 7))) (fcall (some 0) (F_law_take m) (fcons (fvar 0) (fcons (fop2 gAdd (fop2 gFdiv (fop2 gSub (fvar 1) (fc (.int 1))) (fop2 gPow (fc (.int 10)) (fc (.int 7)))) (fc (.int 1))) fnil))))) (fvar 1))) fskip)
    (fseq (fasg (bsub 0 (fc (.int 2))) (fop2 gAdd (fop2 gIx (fvar 0) (fc (.int 2))) (fc (.int 1))))
    (fseq (fset [3] (f1 (fop2 gMod (fop2 gPow (fop2 gAdd (fop2 gIx (fvar 0) (fc (.int 1))) (fop2 gMul (fc (.int 39373)) (fop2 gIx (fvar 0) (fc (.int 2))))) (fc (.int 5))) (fc (.int 2147483647)))))
    (fret (fop2 gMod (fop2 gFdiv (fop2 gMod (fop2 gAdd (fop2 gMul (fvar 3) (fop2 gAdd (fop2 gMod (fvar 3) (fc (.int 40009))) (fc (.int 7)))) (fop2 gMul (fop2 gIx (fvar 0) (fc (.int 2))) (fc (.int 7919)))) (fc (.int 2147483629))) (fc (.int 64))) (fvar 1)))))))
def F_law_of : FS := toF 2 2 (some 0) (fret (fop2 gIx (fvar 1) (fcall (some 0) (F_law_take 3) (fcons (fvar 0) (fcons (fopA gLen (fcons (fvar 1) fnil)) fnil)))))
def F_law_any_call : FS := toF 2 3 (some 0) (fseq (fset [2] (f1 (fcall (some 0) (F_law_take 3) (fcons (fvar 0) (fcons (fop2 gSub (fvar 1) (fc (.int 1))) fnil)))))
    (fret (ftup (fcons (fvar 2) (fcons (fop2 gAdd (fop2 gAdd (fvar 2) (fc (.int 1))) (fcall (some 0) (F_law_take 3) (fcons (fvar 0) (fcons (fop2 gSub (fop2 gSub (fvar 1) (fc (.int 1))) (fvar 2)) fnil)))) fnil)))))
def F_law_some_calls : FS := toF 3 5 (some 0) (fseq (fset [3] (f1 (fcall (some 0) F_law_of (fcons (fvar 0) (fcons (flst (fcons (fvar 1) (fcons (fvar 1) (fcons (fopA gMax (fcons (fc (.int 2)) (fcons (fop2 gFdiv (fvar 1) (fc (.int 2))) fnil))) fnil)))) fnil)))))
    (fret (flc [4] (firng1 (fcons (fcall (some 0) (F_law_take 3) (fcons (fvar 0) (fcons (fop2 gAdd (fvar 2) (fc (.int 1))) fnil))) fnil)) (bname 4) ftrue (fcall (some 0) F_law_any_call (fcons (fvar 0) (fcons (fvar 3) fnil))))))
def F_law_paired : FS := toF 1 3 none (fseq (fset [1] (f1 (frep (flst (fcons (fc (.int 0)) fnil)) (fopA gLen (fcons (fvar 0) fnil)))))
    (fseq (ffor (firng3 (fcons (fc (.int 0)) (fcons (fopA gLen (fcons (fvar 0) fnil)) (fcons (fc (.int 2)) fnil)))) (bname 2) (fasg (btup 2 (bcons (bsub 1 (fop2 gIx (fvar 0) (fvar 2))) (bcons (bsub 1 (fop2 gIx (fvar 0) (fop2 gAdd (fvar 2) (fc (.int 1))))) bnil))) (ftup (fcons (fop2 gIx (fvar 0) (fop2 gAdd (fvar 2) (fc (.int 1)))) (fcons (fop2 gIx (fvar 0) (fvar 2)) fnil)))))
    (fret (fopA gTuple (fcons (fvar 1) fnil)))))
def F_law_strewn : FS := toF 2 4 (some 0) (fseq (fset [2, 3] (fcons (fopA gList (fcons (fvar 1) fnil)) (fcons (flst fnil) fnil)))
    (fseq (whileD (fbool (fop2 gNe (fvar 2) (flst fnil))) (fdrop (fmeth 3 gAppend (fcons (fmeth 2 gPop (fcons (fcall (some 0) (F_law_take 3) (fcons (fvar 0) (fcons (fopA gLen (fcons (fvar 2) fnil)) fnil))) fnil)) fnil))) 1000000)
    (fret (fvar 3))))
def F_law_random : FS := toF 2 2 (some 0) (fret (fcall none F_law_paired (fcons (fcall (some 0) F_law_strewn (fcons (fvar 0) (fcons (flrg1 (fvar 1)) fnil))) fnil)))
def BoxOk (n : Nat) (bx : List D) : Prop := ∃ a b c : Int, bx = [.int a, .int b, .int c] ∧ 0 ≤ a ∧ 0 ≤ b ∧ b < 2 ^ 62 ∧ 0 ≤ c ∧ c ≤ n
theorem BoxOk.mono {n m : Nat} {bx : List D} (h : BoxOk n bx) (hm : n ≤ m) : BoxOk m bx := by
  obtain ⟨a, b, c, e, h1, h2, h3, h4, h5⟩ := h
  exact ⟨a, b, c, e, h1, h2, h3, h4, by omega⟩
theorem BoxOk.atoms {n : Nat} {bx : List D} (h : BoxOk n bx) : bx.all atom = true := by
  obtain ⟨a, b, c, rfl, _⟩ := h
  rfl
theorem gPow10 (j : Int) (h0 : 0 ≤ j) (h1 : j ≤ 1000) : gPow (.int 10) (.int j) = some (.it (.int (10 ^ j.toNat))) := by
  have : CPow 10 j := ⟨h0, by omega, by decide⟩
  simp [gPow, this]
theorem take_spec {m n : Nat} {bx : List D} {s : Int} (hb : BoxOk n bx) (hn : n < 2 ^ 40) (h1 : 1 ≤ s) (h2 : s ≤ 10 ^ 7) :
    ∃ (r : Nat) (bx' : List D), F_law_take (m + 1) [.list bx, .int s] = some ⟨false, .int (r : Int), bx'⟩ ∧ (r : Int) < s ∧ BoxOk (n + 1) bx' := by
  obtain ⟨a, b, c, rfl, ha, hb0, hb1, hc0, hc1⟩ := hb
  suffices h : ∃ (r : Int) (bx' : List D), F_law_take (m + 1) [.list [.int a, .int b, .int c], .int s] = some ⟨false, .int r, bx'⟩ ∧ 0 ≤ r ∧ r < s ∧ BoxOk (n + 1) bx' by
    obtain ⟨r, bx', e, h3, h4, h5⟩ := h
    refine ⟨r.toNat, bx', ?_, by omega, h5⟩
    rw [e, Int.toNat_of_nonneg h3]
  have hs : 0 < s := by omega
  unfold F_law_take
  by_cases h : 0 < a
  · refine ⟨a % s, [.int (a / s), .int b, .int c], ?_, ?_, ?_, ?_⟩
    · have hd : CDiv a s := ⟨by omega, by omega⟩
      simp [toF, en0, enA, fbool, fvar, dat, gIx, atI, ixN, gGt, gIb, h, datA, relA, rel, storeA, gMod, bsub, bsub1, gFdiv, hd, retO, retD, bxOf, hs]
    · exact Int.emod_nonneg _ (by omega)
    · exact Int.emod_lt_of_pos _ (by omega)
    · exact ⟨_, _, _, rfl, Int.ediv_nonneg ha (by omega), hb0, hb1, hc0, by omega⟩
  · have ha0 : a = 0 := by omega
    subst ha0
    have hp : gPow (.int 10) (.int 7) = some (.it (.int 10000000)) := gPow10 7 (by omega) (by omega)
    have hs7 : ¬ (10000000 < s) := by omega
    have hm1 : CMul 39373 (c + 1) ∨ CMulW 39373 (c + 1) := .inl (.inl ⟨by omega, by omega⟩)
    have hp2 : CPow (b + 39373 * (c + 1)) 5 := ⟨by omega, by omega, by omega⟩
    generalize hw : (b + 39373 * (c + 1)) ^ (5 : Int).toNat % 2147483647 = w
    have w0 : 0 ≤ w := by rw [← hw]; exact Int.emod_nonneg _ (by decide)
    have w1 : w < 2147483647 := by rw [← hw]; exact Int.emod_lt_of_pos _ (by decide)
    have hm2 : CMul w (w % 40009 + 7) ∨ CMulW w (w % 40009 + 7) := .inl (.inl ⟨by omega, by omega⟩)
    have hm3 : CMul (c + 1) 7919 ∨ CMulW (c + 1) 7919 := .inl (.inr ⟨by omega, by omega⟩)
    have hd : ∀ i : Int, CDiv i 64 := fun i => ⟨by omega, by omega⟩
    refine ⟨(w * (w % 40009 + 7) + (c + 1) * 7919) % 2147483629 / 64 % s, [.int 0, .int b, .int (c + 1)], ?_, ?_, ?_, ?_⟩
    · have hw' : (b + 39373 * (c + 1)) ^ 5 % 2147483647 = w := hw
      have hq : gPow (.int (b + 39373 * (c + 1))) (.int 5) = some (.it (.int ((b + 39373 * (c + 1)) ^ 5))) := by simp [gPow, hp2]
      simp [toF, en0, enA, fbool, fvar, dat, gIx, atI, ixN, gGt, gIb, datA, relA, rel, storeA, gMod, bsub, bsub1, gFdiv, hd, retO, retD, bxOf, hs, hp, hs7, gMul, hm1, hm2, hm3, gAdd, hq, hw']
    · exact Int.emod_nonneg _ (by omega)
    · exact Int.emod_lt_of_pos _ hs
    · exact ⟨_, _, _, rfl, by omega, hb0, hb1, by omega, by omega⟩
end Sh
set_option Elab.async false
set_option linter.all false
set_option maxRecDepth 100000
set_option maxHeartbeats 4000000
namespace Sh
open PySem PySem.Spec PyProof.Rows L2 DL
def pr (a b : Nat) : D := .tuple [.int (a : Int), .int (b : Int)]
def Ns (l : List Nat) : List D := l.map fun x : Nat => PyData.int (x : Int)
theorem Ns_get (l : List Nat) (i : Nat) : (Ns l)[i]? = l[i]?.map fun x : Nat => PyData.int (x : Int) := by simp [Ns]
@[simp] theorem Ns_len (l : List Nat) : (Ns l).length = l.length := by simp [Ns]
@[simp] theorem rgD_len (a c : Int) (n : Nat) : (rgD a c n).length = n := by simp [rgD]
theorem any_call_spec {k n : Nat} {bx : List D} (hb : BoxOk k bx) (hk : k + 2 < 2 ^ 40) (h2 : 2 ≤ n) (hn : n ≤ 1000) :
    ∃ (a b : Nat) (bx' : List D), F_law_any_call [.list bx, .int (n : Int)] = some ⟨false, pr a b, bx'⟩ ∧ a < b ∧ b < n ∧ BoxOk (k + 2) bx' := by
  obtain ⟨a, bx1, e1, l1, hb1⟩ := take_spec (m := 2) (s := (n : Int) - 1) hb (by omega) (by omega) (by omega)
  obtain ⟨r, bx2, e2, l2, hb2⟩ := take_spec (m := 2) (s := (n : Int) - 1 - a) hb1 (by omega) (by omega) (by omega)
  refine ⟨a, a + 1 + r, bx2, ?_, by omega, by omega, hb2⟩
  simp [F_law_any_call, toF, en0, enA, fvar, dat, datA, gI, e1, e2, fcallEnd, lone, atom, hb1.atoms, hb2.atoms, setNo, relA, rel, hasAl, gAdd, storeA, retO, retD, bxOf, pr]
theorem of_spec {k : Nat} {bx ds : List D} (hb : BoxOk k bx) (hk : k + 2 < 2 ^ 40) (h1 : ds ≠ []) (hn : ds.length ≤ 1000) :
    ∃ (d : D) (bx' : List D), F_law_of [.list bx, .list ds] = some ⟨false, d, bx'⟩ ∧ d ∈ ds ∧ BoxOk (k + 1) bx' := by
  have hp : 0 < ds.length := List.length_pos_iff.mpr h1
  obtain ⟨a, bx1, e1, l1, hb1⟩ := take_spec (m := 2) (s := (ds.length : Nat)) hb (by omega) (by omega) (by omega)
  have ha : a < ds.length := by omega
  refine ⟨ds[a], bx1, ?_, List.getElem_mem ha, hb1⟩
  have e2 : atI ds (a : Int) = some ds[a] := by rw [atI_nat, List.getElem?_eq_getElem ha]
  simp [F_law_of, toF, en0, enA, fvar, dat, datA, gIx, gLen, e1, e2, fcallEnd, lone, atom, hb1.atoms, setNo, relA, rel, hasAl, storeA, retO, retD, bxOf]
theorem some_calls_spec {k n most : Nat} {bx : List D} (hb : BoxOk k bx) (hk : k + 10000 < 2 ^ 40) (h2 : 2 ≤ n) (hn : n ≤ 1000) (hm : most ≤ 2000) :
    ∃ (ps : List (Nat × Nat)) (bx' : List D), F_law_some_calls [.list bx, .int (n : Int), .int (most : Int)] = some ⟨true, .list (ps.map fun p => pr p.1 p.2), bx'⟩ ∧ (∀ p ∈ ps, p.1 < p.2 ∧ p.2 < n) ∧ ps.length ≤ most ∧ BoxOk (k + 10000) bx' := by
  have hmx : max (2 : Int) ((n : Int) / 2) = ((max 2 (n / 2) : Nat) : Int) := by omega
  obtain ⟨d, bx1, e1, l1, hb1⟩ := of_spec (ds := [.int (n : Int), .int (n : Int), .int (max (2 : Int) ((n : Int) / 2))]) hb (by omega) (by simp) (by simp)
  obtain ⟨w, hw, w1, w2⟩ : ∃ w : Nat, d = .int (w : Int) ∧ 2 ≤ w ∧ w ≤ n := by
    simp only [List.mem_cons, List.not_mem_nil, or_false] at l1
    rcases l1 with rfl | rfl | rfl
    · exact ⟨n, rfl, h2, Nat.le_refl _⟩
    · exact ⟨n, rfl, h2, Nat.le_refl _⟩
    · exact ⟨max 2 (n / 2), by rw [hmx], by omega, by omega⟩
  subst hw
  obtain ⟨t, bx2, e2, l2, hb2⟩ := take_spec (m := 2) (s := (most : Int) + 1) hb1 (by omega) (by omega) (by omega)
  have ht : t ≤ most := by omega
  have hlc := lcD_inv (own := [4]) (b := bname 4) (t := ftrue) (elt := fcall (some 0) F_law_any_call (fcons (fvar 0) (fcons (fvar 3) fnil)))
    (fun j ρ => ∃ bx, BoxOk (k + 2 + 2 * j) bx ∧ ρ = [some (.bx, .list bx), some (.sh, .int (n : Int)), some (.sh, .int (most : Int)), some (.sh, .int (w : Int)), none])
    (fun e => ∃ p : Nat × Nat, e = pr p.1 p.2 ∧ p.1 < p.2 ∧ p.2 < n) (rgD 0 1 t) [] 0
    [some (.bx, .list bx2), some (.sh, .int (n : Int)), some (.sh, .int (most : Int)), some (.sh, .int (w : Int)), none] ⟨bx2, by simpa using hb2, rfl⟩ (fun e he => nomatch he) (by
      rintro j d ρ hj ⟨bx, hbx, rfl⟩
      have hjt : j < t := by
        have := (List.getElem?_eq_some_iff.mp hj).1
        simpa [rgD] using this
      obtain ⟨a, b, bx', e3, h3, h4, h5⟩ := any_call_spec (n := w) hbx (by omega) w1 (by omega)
      refine ⟨[some (.bx, .list bx), some (.sh, .int (n : Int)), some (.sh, .int (most : Int)), some (.sh, .int (w : Int)), some (.sh, d)], _, .sh (pr a b), [some (.bx, .list bx'), some (.sh, .int (n : Int)), some (.sh, .int (most : Int)), some (.sh, .int (w : Int)), some (.sh, d)], _, pr a b, by simp [wipeE], rfl, ?_, rfl, rfl, ⟨(a, b), rfl, h3, by omega⟩, bx', ?_, ?_⟩
      · simp [fvar, dat, datA, e3, fcallEnd, lone, atom, h5.atoms, setNo, relA, rel, hasAl, pr]
      · rwa [show k + 2 + 2 * (0 + j + 1) = k + 2 + 2 * (0 + j) + 2 by omega]
      · simp [backE, DL.slotAt]) (by rw [rgD_len, List.length_nil]; omega)
  obtain ⟨es, ρ', e4, h5, h6, bx3, hb3, rfl⟩ := hlc
  obtain ⟨ps, rfl, hps⟩ : ∃ ps : List (Nat × Nat), es = ps.map (fun p => pr p.1 p.2) ∧ ∀ p ∈ ps, p.1 < p.2 ∧ p.2 < n := by
    clear e4 h6
    induction es with
    | nil => exact ⟨[], rfl, fun p hp => nomatch hp⟩
    | cons e es ih =>
      obtain ⟨p, rfl, hp⟩ := h5 e List.mem_cons_self
      obtain ⟨ps, rfl, hps⟩ := ih fun e he => h5 e (List.mem_cons_of_mem _ he)
      refine ⟨p :: ps, rfl, fun q hq => ?_⟩
      rcases List.mem_cons.mp hq with rfl | hq
      · exact hp
      · exact hps q hq
  have hl : ps.length = t := by simpa [rgD] using h6
  refine ⟨ps, bx3, ?_, hps, by omega, hb3.mono (by rw [rgD_len]; omega)⟩
  have hd : CDiv (n : Int) 2 := ⟨by omega, by omega⟩
  have ht2 : rOk (t : Int) := rOk_nat (by omega)
  refine toF_of (o := .rt (.fr (.list (ps.map fun p => pr p.1 p.2))) _) (fseq_nx (ρ1 := [some (.bx, .list bx1), some (.sh, .int (n : Int)), some (.sh, .int (most : Int)), some (.sh, .int (w : Int)), none]) ?_ (fret_of (flc_of (ρ1 := [some (.bx, .list bx2), some (.sh, .int (n : Int)), some (.sh, .int (most : Int)), some (.sh, .int (w : Int)), none]) (ds := rgD 0 1 t) (firng1_of (rs := [.sh (.int (t : Int))]) ?_ rfl (by omega)) e4))) ?_
  · simp [en0, enA, fvar, dat, datA, gFdiv, hd, gMax, e1, fcallEnd, lone, atom, hb1.atoms, setNo, relA, rel, hasAl, storeA]
  · simp [fvar, dat, datA, e2, fcallEnd, lone, atom, hb2.atoms, setNo, relA, rel, hasAl, gAdd]
  · simp [retO, retD, bxOf]
end Sh
set_option Elab.async false
set_option linter.all false
set_option maxRecDepth 100000
set_option maxHeartbeats 4000000
namespace Sh
open PySem PySem.Spec PyProof.Rows L2 DL
theorem ns_lay : ∀ l : List Nat, PyData.canLayAll0 (Ns l) = true
  | [] => by simp [Ns, PyData.canLayAll0]
  | x :: l => by
    have := ns_lay l
    simp only [Ns] at this
    simp [Ns, PyData.canLayAll0, PyData.canLay0, this]
theorem ns_depth : ∀ l : List Nat, PyData.depthAll (Ns l) = 0
  | [] => by simp [Ns, PyData.depthAll]
  | x :: l => by
    have := ns_depth l
    simp only [Ns] at this
    simp [Ns, PyData.depthAll, PyData.depth, this]
theorem ns_shL (l : List Nat) : SeqAt.shaped (.list (Ns l)) = true := by simp [SeqAt.shaped, PyData.canLay0, PyData.depth, ns_lay, ns_depth]
theorem ns_shT (l : List Nat) : SeqAt.shaped (.tuple (Ns l)) = true := by simp [SeqAt.shaped, PyData.canLay0, PyData.depth, ns_lay, ns_depth]
/-- xs != [] -/
theorem ne_nilN (l : List Nat) : gNe (.list (Ns l)) (.list []) = some (.it (.bool (!l.isEmpty))) := by
  have e : eqDD (.list (Ns l)) (.list []) = some (PyData.eqv (.list (Ns l)) (.list [])) := by
    have h := ns_shL l
    have h2 := ns_shL []
    show (if SeqAt.shaped (.list (Ns l)) && SeqAt.shaped (.list []) then some (PyData.eqv (.list (Ns l)) (.list [])) else none) = _
    rw [h, show SeqAt.shaped (.list []) = true from h2]; rfl
  unfold gNe
  rw [e]
  cases l with
  | nil => simp [Ns, PyData.eqv, PyData.eqvAll]
  | cons a l => simp [Ns, PyData.eqv, PyData.eqvAll]
theorem map_erase {α β : Type} (f : α → β) : ∀ (l : List α) (i : Nat), (l.map f).eraseIdx i = (l.eraseIdx i).map f
  | [], _ => by simp
  | x :: l, 0 => by simp
  | x :: l, i + 1 => by simp [map_erase f l i]
theorem perm_erase : ∀ (l : List Nat) (a : Nat) (h : a < l.length), (l[a] :: l.eraseIdx a).Perm l
  | x :: l, 0, _ => by simp
  | x :: l, a + 1, h => by
    have h' : a < l.length := by simpa using h
    have := perm_erase l a h'
    simp only [List.getElem_cons_succ, List.eraseIdx_cons_succ]
    exact (List.Perm.swap x l[a] _).trans (this.cons x)
theorem strewn_c (bx : List D) (xs ls fs : List Nat) : fbool (fop2 gNe (fvar 2) (flst fnil)) [some (.bx, .list bx), some (.sh, .list (Ns xs)), some (.ow, .list (Ns ls)), some (.ow, .list (Ns fs))] = some (!ls.isEmpty, [some (.bx, .list bx), some (.sh, .list (Ns xs)), some (.ow, .list (Ns ls)), some (.ow, .list (Ns fs))]) := by
  simp [fbool, fvar, dat, datA, relA, ne_nilN]
theorem strewn_spec {k : Nat} {bx : List D} {xs : List Nat} (hb : BoxOk k bx) (hk : k + 1000 < 2 ^ 40) (hn : xs.length ≤ 1000) :
    ∃ (ys : List Nat) (bx' : List D), F_law_strewn [.list bx, .list (Ns xs)] = some ⟨true, .list (Ns ys), bx'⟩ ∧ ys.Perm xs ∧ BoxOk (k + 1000) bx' := by
  obtain ⟨ρ', m', ρ1, e1, h1, _, ⟨bx3, ls3, fs3, hm3, hr3, hb3, hp3⟩, h2⟩ := whileD_inv (c := fbool (fop2 gNe (fvar 2) (flst fnil)))
    (body := fdrop (fmeth 3 gAppend (fcons (fmeth 2 gPop (fcons (fcall (some 0) (F_law_take 3) (fcons (fvar 0) (fcons (fopA gLen (fcons (fvar 2) fnil)) fnil))) fnil)) fnil)))
    (fun m ρ => ∃ (bx : List D) (ls fs : List Nat), m = ls.length ∧ ρ = [some (.bx, .list bx), some (.sh, .list (Ns xs)), some (.ow, .list (Ns ls)), some (.ow, .list (Ns fs))] ∧ BoxOk (k + fs.length) bx ∧ (fs ++ ls).Perm xs)
    (by
      rintro m ρ ⟨bx, ls, fs, rfl, rfl, hb, hp⟩
      have hlen : fs.length + ls.length = xs.length := by rw [← List.length_append]; exact hp.length_eq
      have hc := strewn_c bx xs ls fs
      refine ⟨[some (.bx, .list bx), some (.sh, .list (Ns xs)), some (.ow, .list (Ns ls)), some (.ow, .list (Ns fs))], ?_⟩
      · cases ls with
        | nil => exact .inl ⟨hc, bx, [], fs, rfl, rfl, hb, hp⟩
        | cons x l =>
          obtain ⟨a, bx1, e1, l1, hb1⟩ := take_spec (m := 2) (s := ((x :: l).length : Nat)) hb (by omega) (by simp; omega) (by simp at hlen ⊢; omega)
          have ha : a < (x :: l).length := by omega
          refine .inr ⟨_, ((x :: l).eraseIdx a).length, hc, ?_, ?_, bx1, (x :: l).eraseIdx a, fs ++ [(x :: l)[a]], rfl, rfl, ?_, ?_⟩
          · have e2 : gPop (Ns (x :: l)) [.int (a : Int)] = some (.int (((x :: l)[a] : Nat) : Int), Ns ((x :: l).eraseIdx a)) := by
              have hs : seqIndex? (a : Int) (Ns (x :: l)).length = some a := seqIx_int (by simpa using ha)
              have hi : -(2 ^ 63) ≤ (a : Int) ∧ (a : Int) < 2 ^ 63 := by simp at ha hlen; omega
              unfold gPop
              simp only [hi, and_self, if_true, hs, Option.bind_some, Ns_get, List.getElem?_eq_getElem ha, Option.map_some]
              exact congrArg some (congrArg (Prod.mk _) (map_erase (fun x : Nat => PyData.int (x : Int)) (x :: l) a))
            have e3 : ∀ d, gAppend (Ns fs) [d] = some (.none, Ns fs ++ [d]) := fun d => by
              have : fs.length < 16777216 := by simp at hlen; omega
              simp [gAppend, this]
            have e1' : F_law_take 3 [.list bx, .int ((Ns (x :: l)).length : Nat)] = some ⟨false, .int (a : Int), bx1⟩ := by rw [Ns_len]; exact e1
            have e4 : Ns (fs ++ [(x :: l)[a]]) = Ns fs ++ [.int (((x :: l)[a] : Nat) : Int)] := by simp [Ns]
            rw [e4]
            generalize (x :: l)[a] = y at e2 ⊢
            generalize (x :: l).eraseIdx a = l' at e2 ⊢
            generalize Ns (x :: l) = q at e2 e1' ⊢
            have q1 : fcall (some 0) (F_law_take 3) (fcons (fvar 0) (fcons (fopA gLen (fcons (fvar 2) fnil)) fnil)) [some (.bx, .list bx), some (.sh, .list (Ns xs)), some (.ow, .list q), some (.ow, .list (Ns fs))] = some (.sh (.int (a : Int)), [some (.bx, .list bx1), some (.sh, .list (Ns xs)), some (.ow, .list q), some (.ow, .list (Ns fs))]) := by
              refine fcallBi_of (bx0 := bx) (ρ1 := [some (.bx, .list bx), some (.sh, .list (Ns xs)), some (.ow, .list q), some (.ow, .list (Ns fs))]) (rs := [.sh (.int (q.length : Nat))]) ?_ rfl e1' rfl hb1.atoms
              simp [fvar, dat, datA, gLen]
            have q2 := fmeth_of (j := 2) (g := gPop) (fcons_of q1 fnil_of) rfl rfl e2
            exact fdrop_of (fmeth_of (j := 3) (g := gAppend) (fcons_of q2 fnil_of) rfl rfl (e3 _))
          · rw [List.length_eraseIdx_of_lt ha]; simp
          · simpa [Nat.add_assoc] using hb1
          · refine List.Perm.trans ?_ hp
            rw [List.append_assoc]
            refine List.Perm.append_left fs ?_
            exact perm_erase _ a ha)
    1000000 xs.length [some (.bx, .list bx), some (.sh, .list (Ns xs)), some (.ow, .list (Ns xs)), some (.ow, .list (Ns []))] ⟨bx, xs, [], rfl, rfl, by simpa using hb, by simp⟩ (by omega)
  subst hr3
  rw [strewn_c] at h2
  have h3 := Option.some.inj h2
  have h4 : (!ls3.isEmpty) = false := congrArg Prod.fst h3
  have h5 : _ = ρ' := congrArg Prod.snd h3
  have h6 : ls3 = [] := by
    cases ls3 with
    | nil => rfl
    | cons => cases h4
  subst h6
  subst h5
  have hl : fs3.length ≤ 1000 := by
    have := hp3.length_eq
    simp at this; omega
  refine ⟨fs3, bx3, ?_, by simpa using hp3, hb3.mono (by omega)⟩
  refine toF_of (fseq_nx (ρ1 := [some (.bx, .list bx), some (.sh, .list (Ns xs)), some (.ow, .list (Ns xs)), some (.ow, .list (Ns []))]) ?_ (fseq_nx e1 (fret_of (r := .al 3) (ρ1 := [some (.bx, .list bx3), some (.sh, .list (Ns xs)), some (.ow, .list (Ns [])), some (.ow, .list (Ns fs3))]) rfl))) rfl
  simp [en0, enA, fvar, dat, datA, relA, rel, gList, storeA, Ns]
end Sh
set_option Elab.async false
set_option linter.all false
set_option maxRecDepth 100000
set_option maxHeartbeats 4000000
namespace Sh
open PySem PySem.Spec PyProof.Rows L2 DL
/-- each index below n has another one, that has it -/
structure Joined (n : Nat) (p : List Nat) : Prop where
  len : p.length = n
  ok : ∀ x, x < n → ∃ y, p[x]? = some y ∧ y < n ∧ y ≠ x ∧ p[y]? = some x
theorem fits {i : Int} (h0 : -1000000000 ≤ i) (h1 : i < 1000000000) : Builtin.Range.rangeFitsLong i = true := by
  have h : -(2 ^ 63) ≤ i ∧ i < 2 ^ 63 := by omega
  unfold Builtin.Range.rangeFitsLong
  rw [Bool.and_eq_true, decide_eq_true_eq, decide_eq_true_eq]
  exact h
theorem small2 {n : Nat} {a : Int} (h0 : 0 ≤ a) (h1 : a < 1000000) (h : n ≤ 1000000) : Builtin.Range.small a n 2 = true := by
  have hs : 0 ≤ Builtin.Range.rangeSize a n 2 ∧ Builtin.Range.rangeSize a n 2 ≤ 1000000 := by
    unfold Builtin.Range.rangeSize
    rw [if_pos (by omega)]
    split <;> omega
  unfold Builtin.Range.small
  rw [fits (i := a) (by omega) (by omega), fits (i := (n : Int)) (by omega) (by omega), fits (i := 2) (by omega) (by omega), fits (i := Builtin.Range.rangeSize a n 2) (by omega) (by omega), if_pos (by omega), fits (i := (n : Int) + (2 - 1)) (by omega) (by omega)]
  rw [Bool.or_true]; rfl
theorem size2 {n : Nat} {a : Nat} : (Builtin.Range.rangeSize a n 2).toNat = (n + 1 - a) / 2 := by
  unfold Builtin.Range.rangeSize
  rw [if_pos (by omega)]
  split <;> omega
theorem firng3_2 {fs : Fa} {ρ ρ1 : En} {rs : List RV} {a t : Nat} (h : fs ρ = some (rs, ρ1)) (h2 : datA ρ1 rs = some [.int (a : Int), .int (t : Int), .int 2]) (ha : a < 1000000) (ht : t ≤ 1000000) : firng3 fs ρ = some (rgD a 2 ((t + 1 - a) / 2), ρ1) := by
  unfold firng3
  rw [h, Option.bind_some, h2, Option.bind_some]
  have h3 : (2 : Int) ≠ 0 ∧ (2 : Int).natAbs < 1073741824 ∧ Builtin.Range.small a t 2 = true := ⟨by decide, by decide, small2 (by omega) (by omega) ht⟩
  show (if (2 : Int) ≠ 0 ∧ (2 : Int).natAbs < 1073741824 ∧ Builtin.Range.small a t 2 = true then some (rgD a 2 (Builtin.Range.rangeSize a t 2).toNat, ρ1) else none) = _
  rw [if_pos h3, size2]
theorem rgD_get {a c : Int} {n j : Nat} {d : D} (h : (rgD a c n)[j]? = some d) : j < n ∧ d = .int (a + j * c) := by
  have hj : j < n := by simpa using (List.getElem?_eq_some_iff.mp h).1
  unfold rgD at h
  rw [List.getElem?_map, List.getElem?_range hj] at h
  exact ⟨hj, (Option.some.inj h).symm⟩
theorem Ns_set (l : List Nat) (i x : Nat) : (Ns l).set i (.int (x : Int)) = Ns (l.set i x) := by
  simp [Ns, List.map_set]
theorem bsub_of {j k n : Nat} {fi : Fe} {ρ ρ1 : En} {d : D} {r : RV} {fl : Fl} {d0 : D} {es : List Nat} {x : Nat} {i : Int} (h : fi ρ = some (r, ρ1)) (h2 : dat ρ1 r = some (.int i)) (hi : i = (k : Int)) (hk : k < es.length) (hd : d = .int (x : Int)) (h0 : ρ[j]? = some (some (fl, d0)) := by rfl) (h1 : ρ1[j]? = some (some (fl, .list (Ns es))) := by rfl) (hfl : fl ≠ .sh := by decide) : bsub j fi d ρ = some (ρ1.set j (some (fl, .list (Ns (es.set k x))))) := by
  subst hd
  have e : bsub1 j fi (.int (x : Int)) ρ = some (ρ1.set j (some (fl, .list (Ns (es.set k x))))) := by
    unfold bsub1
    rw [h, Option.bind_some, h2, Option.bind_some, h1]
    show (if fl = .sh then none else (ixN (Ns es).length i).map fun n => ρ1.set j (some (fl, .list ((Ns es).set n (.int (x : Int)))))) = _
    rw [if_neg hfl, ixN_int hi (by simpa using hk)]
    simp only [Option.map_some, Ns_set]
  unfold bsub
  rw [h0]
  cases fl with
  | sh => exact absurd rfl hfl
  | ow => exact e
  | bx => exact e
theorem perm_facts {n : Nat} {o : List Nat} (h : o.Perm (List.range n)) : o.length = n ∧ o.Nodup ∧ (∀ j y : Nat, o[j]? = some y → y < n) ∧ ∀ x : Nat, x < n → ∃ j : Nat, o[j]? = some x := by
  refine ⟨by simpa using h.length_eq, h.nodup_iff.mpr List.nodup_range, fun j y e => ?_, fun x hx => ?_⟩
  · exact List.mem_range.mp (h.mem_iff.mp (List.mem_of_getElem? e))
  · exact List.mem_iff_getElem?.mp (h.mem_iff.mpr (List.mem_range.mpr hx))
theorem nodup_get {o : List Nat} (h : o.Nodup) {i j y : Nat} (hi : o[i]? = some y) (hj : o[j]? = some y) : i = j := by
  obtain ⟨h1, e1⟩ := List.getElem?_eq_some_iff.mp hi
  obtain ⟨h2, e2⟩ := List.getElem?_eq_some_iff.mp hj
  have hp := List.pairwise_iff_getElem.mp h
  rcases Nat.lt_trichotomy i j with q | q | q
  · exact absurd (e1.trans e2.symm) (hp i j h1 h2 q)
  · exact q
  · exact absurd (e2.trans e1.symm) (hp j i h2 h1 q)
/-- the other one of the two -/
def oth (j : Nat) : Nat := if j % 2 = 0 then j + 1 else j - 1
theorem frep_of {fa fb : Fe} {ρ ρ1 ρ2 : En} {xs : List D} {n : Nat} {r : RV} (h : fa ρ = some (.fr (.list xs), ρ1)) (h2 : fb ρ1 = some (r, ρ2)) (hd : dat ρ2 r = some (.int (n : Int))) (hc : -(2 ^ 63) ≤ (n : Int) ∧ (n : Int) < 2 ^ 63 ∧ xs.length * (n : Int).toNat ≤ 16777216) : frep fa fb ρ = some (.fr (.list (List.replicate n xs).flatten), ρ2) := by
  unfold frep
  rw [h, Option.bind_some, h2, Option.bind_some]
  dsimp only
  rw [hd, Option.bind_some]
  dsimp only
  rw [if_pos hc, Int.toNat_natCast]
theorem paired_spec {n : Nat} {o : List Nat} (h : o.Perm (List.range n)) (he : n % 2 = 0) (hn : n ≤ 1000) :
    ∃ p : List Nat, F_law_paired [.list (Ns o)] = some ⟨false, .tuple (Ns p), []⟩ ∧ Joined n p := by
  obtain ⟨hl, hnd, hlt, hon⟩ := perm_facts h
  obtain ⟨ρ', e1, k1, fs, rfl, hfl, hfs⟩ := forD_inv (b := bname 2) (body := fasg (btup 2 (bcons (bsub 1 (fop2 gIx (fvar 0) (fvar 2))) (bcons (bsub 1 (fop2 gIx (fvar 0) (fop2 gAdd (fvar 2) (fc (.int 1))))) bnil))) (ftup (fcons (fop2 gIx (fvar 0) (fop2 gAdd (fvar 2) (fc (.int 1)))) (fcons (fop2 gIx (fvar 0) (fvar 2)) fnil))))
    (fun i ρ => ∃ (k : Option (Fl × D)) (fs : List Nat), ρ = [some (.sh, .list (Ns o)), some (.ow, .list (Ns fs)), k] ∧ fs.length = n ∧ ∀ j x, j < 2 * i → o[j]? = some x → ∃ y, o[oth j]? = some y ∧ fs[x]? = some y)
    (rgD 0 2 (n / 2)) 0 [some (.sh, .list (Ns o)), some (.ow, .list (Ns (List.replicate n 0))), none] ⟨none, _, rfl, by simp, fun j x hj => absurd hj (by omega)⟩ (by
      rintro i d ρ hd ⟨k, fs, rfl, hfl, hfs⟩
      obtain ⟨hi, rfl⟩ := rgD_get hd
      have h1 : 2 * i + 1 < o.length := by omega
      have h0 : 2 * i < o.length := by omega
      have ex : o[2 * i]? = some o[2 * i] := List.getElem?_eq_getElem h0
      have ey : o[2 * i + 1]? = some o[2 * i + 1] := List.getElem?_eq_getElem h1
      generalize o[2 * i] = x at ex
      generalize o[2 * i + 1] = y at ey
      have hx := hlt _ _ ex
      have hy := hlt _ _ ey
      have hxy : x ≠ y := fun e => by
        subst e
        have := nodup_get hnd ex ey
        omega
      have g0 : atI (Ns o) (0 + (i : Int) * 2) = some (.int (x : Int)) := by rw [atI_int (n := 2 * i) _ (by omega), Ns_get, ex]; rfl
      have g1 : atI (Ns o) (0 + (i : Int) * 2 + 1) = some (.int (y : Int)) := by rw [atI_int (n := 2 * i + 1) _ (by omega), Ns_get, ey]; rfl
      generalize (0 + (i : Int) * 2) = q at g0 g1
      refine ⟨_, [some (.sh, .list (Ns o)), some (.ow, .list (Ns ((fs.set x y).set y x))), some (.sh, .int q)], rfl, ?_, some (.sh, .int q), (fs.set x y).set y x, rfl, by simpa using hfl, ?_⟩
      · have b1 : bsub 1 (fop2 gIx (fvar 0) (fvar 2)) (.int (y : Int)) [some (.sh, .list (Ns o)), some (.ow, .list (Ns fs)), some (.sh, .int q)] = some [some (.sh, .list (Ns o)), some (.ow, .list (Ns (fs.set x y))), some (.sh, .int q)] :=
          bsub_of (n := n) (k := x) (i := (x : Int)) (r := .sh (.int (x : Int))) (ρ1 := [some (.sh, .list (Ns o)), some (.ow, .list (Ns fs)), some (.sh, .int q)]) (by simp [fvar, dat, gIx, g0]) rfl rfl (by omega) rfl
        have b2 : bsub 1 (fop2 gIx (fvar 0) (fop2 gAdd (fvar 2) (fc (.int 1)))) (.int (x : Int)) [some (.sh, .list (Ns o)), some (.ow, .list (Ns (fs.set x y))), some (.sh, .int q)] = some [some (.sh, .list (Ns o)), some (.ow, .list (Ns ((fs.set x y).set y x))), some (.sh, .int q)] :=
          bsub_of (n := n) (k := y) (i := (y : Int)) (r := .sh (.int (y : Int))) (ρ1 := [some (.sh, .list (Ns o)), some (.ow, .list (Ns (fs.set x y))), some (.sh, .int q)]) (by simp [fvar, dat, gIx, gAdd, g1]) rfl rfl (by simp; omega) rfl
        generalize bsub 1 (fop2 gIx (fvar 0) (fvar 2)) = B1 at b1 ⊢
        generalize bsub 1 (fop2 gIx (fvar 0) (fop2 gAdd (fvar 2) (fc (.int 1)))) = B2 at b2 ⊢
        simp [fvar, dat, datA, relA, rel, gIx, gAdd, g0, g1, b1, b2]
      · intro j z hj hz
        by_cases hjn : j < 2 * i
        · obtain ⟨u, hu1, hu2⟩ := hfs j z (by omega) hz
          refine ⟨u, hu1, ?_⟩
          have z1 : z ≠ x := fun e => by
            subst e
            have := nodup_get hnd hz ex
            omega
          have z2 : z ≠ y := fun e => by
            subst e
            have := nodup_get hnd hz ey
            omega
          rw [List.getElem?_set_ne (Ne.symm z2), List.getElem?_set_ne (Ne.symm z1)]; exact hu2
        · have : j = 2 * i ∨ j = 2 * i + 1 := by omega
          rcases this with rfl | rfl
          · have : z = x := Option.some.inj (hz.symm.trans ex)
            subst this
            refine ⟨y, by rw [show oth (2 * i) = 2 * i + 1 by unfold oth; rw [if_pos (by omega)]]; exact ey, ?_⟩
            rw [List.getElem?_set_ne (Ne.symm hxy), List.getElem?_set_self (by omega)]
          · have : z = y := Option.some.inj (hz.symm.trans ey)
            subst this
            refine ⟨x, by rw [show oth (2 * i + 1) = 2 * i by unfold oth; rw [if_neg (by omega)]; omega]; exact ex, ?_⟩
            rw [List.getElem?_set_self (by simp; omega)])
  refine ⟨fs, ?_, hfl, fun x hx => ?_⟩
  · have hm : (List.replicate n [PyData.int 0]).flatten = Ns (List.replicate n 0) := by
      have : ∀ m : Nat, (List.replicate m [PyData.int 0]).flatten = Ns (List.replicate m 0) := fun m => by
        induction m with
        | zero => rfl
        | succ m ih => rw [List.replicate_succ, List.flatten_cons, ih]; simp [Ns, List.replicate_succ]
      exact this n
    have hc : -(2 ^ 63) ≤ (n : Int) ∧ (n : Int) < 2 ^ 63 ∧ [PyData.int 0].length * (n : Int).toNat ≤ 16777216 := ⟨by omega, by omega, by simp; omega⟩
    have r1 : frep (flst (fcons (fc (.int 0)) fnil)) (fopA gLen (fcons (fvar 0) fnil)) [some (.sh, .list (Ns o)), none, none] = some (.fr (.list (Ns (List.replicate n 0))), [some (.sh, .list (Ns o)), none, none]) := by
      have a1 : flst (fcons (fc (.int 0)) fnil) [some (.sh, .list (Ns o)), none, none] = some (.fr (.list [.int 0]), [some (.sh, .list (Ns o)), none, none]) := rfl
      have a2 : fopA gLen (fcons (fvar 0) fnil) [some (.sh, .list (Ns o)), none, none] = some (.sh (.int (n : Int)), [some (.sh, .list (Ns o)), none, none]) := by simp [fvar, dat, datA, gLen, hl]
      rw [frep_of a1 a2 rfl hc, hm]
    refine toF_of (fseq_nx (ρ1 := [some (.sh, .list (Ns o)), some (.ow, .list (Ns (List.replicate n 0))), none]) ?_ (fseq_nx (ffor_of (ds := rgD 0 2 (n / 2)) (ρ1 := [some (.sh, .list (Ns o)), some (.ow, .list (Ns (List.replicate n 0))), none]) ?_ e1) (fret_of (r := .sh (.tuple (Ns fs))) (ρ1 := [some (.sh, .list (Ns o)), some (.ow, .list (Ns fs)), k1]) ?_))) rfl
    · rw [s_fset, s_f1, show en0 none 3 [.list (Ns o)] = [some (.sh, .list (Ns o)), none, none] from rfl, r1]
      rfl
    · have := firng3_2 (a := 0) (t := n) (fs := fcons (fc (.int 0)) (fcons (fopA gLen (fcons (fvar 0) fnil)) (fcons (fc (.int 2)) fnil))) (ρ := [some (.sh, .list (Ns o)), some (.ow, .list (Ns (List.replicate n 0))), none]) (ρ1 := [some (.sh, .list (Ns o)), some (.ow, .list (Ns (List.replicate n 0))), none]) (rs := [.sh (.int 0), .sh (.int (n : Int)), .sh (.int 2)]) (by simp [fvar, dat, datA, gLen, hl]) rfl (by omega) (by omega)
      rw [show (n + 1 - 0) / 2 = n / 2 by omega] at this
      exact this
    · simp [fvar, dat, datA, gTuple]
  · obtain ⟨j, hj⟩ := hon x hx
    have hjl : j < o.length := (List.getElem?_eq_some_iff.mp hj).1
    obtain ⟨y, hy1, hy2⟩ := hfs j x (by simp; omega) hj
    have hyl : oth j < o.length := (List.getElem?_eq_some_iff.mp hy1).1
    obtain ⟨z, hz1, hz2⟩ := hfs (oth j) y (by simp; omega) hy1
    have hoo : oth (oth j) = j := by unfold oth; split <;> split <;> omega
    rw [hoo] at hz1
    have : z = x := Option.some.inj (hz1.symm.trans hj)
    subst this
    refine ⟨y, hy2, hlt _ _ hy1, fun e => ?_, hz2⟩
    subst e
    have := nodup_get hnd hj hy1
    unfold oth at this
    split at this <;> omega
theorem random_spec {k n : Nat} {bx : List D} (hb : BoxOk k bx) (hk : k + 1000 < 2 ^ 40) (he : n % 2 = 0) (hn : n ≤ 1000) :
    ∃ (p : List Nat) (bx' : List D), F_law_random [.list bx, .int (n : Int)] = some ⟨false, .tuple (Ns p), bx'⟩ ∧ Joined n p ∧ BoxOk (k + 1000) bx' := by
  obtain ⟨o, bx1, e1, hp, hb1⟩ := strewn_spec (xs := List.range n) hb hk (by simpa using hn)
  obtain ⟨p, e2, hj⟩ := paired_spec hp he hn
  have hr : rgD 0 1 n = Ns (List.range n) := by simp [rgD, Ns]
  refine ⟨p, bx1, ?_, hj, hb1⟩
  have hg : -(2 ^ 62) ≤ (n : Int) ∧ (n : Int) ≤ 16777216 := by omega
  have q0 : flrg1 (fvar 1) [some (.bx, .list bx), some (.sh, .int (n : Int))] = some (.fr (.list (Ns (List.range n))), [some (.bx, .list bx), some (.sh, .int (n : Int))]) := by
    unfold flrg1
    rw [show fvar 1 [some (.bx, .list bx), some (.sh, .int (n : Int))] = some (.sh (.int (n : Int)), [some (.bx, .list bx), some (.sh, .int (n : Int))]) from rfl, Option.bind_some]
    show (if -(2 ^ 62) ≤ (n : Int) ∧ (n : Int) ≤ 16777216 then some (RV.fr (.list (rgD 0 1 (n : Int).toNat)), _) else none) = _
    rw [if_pos hg, Int.toNat_natCast, hr]
  have q0' : fcons (fvar 0) (fcons (flrg1 (fvar 1)) fnil) [some (.bx, .list bx), some (.sh, .int (n : Int))] = some ([.al 0, .fr (.list (Ns (List.range n)))], [some (.bx, .list bx), some (.sh, .int (n : Int))]) :=
    fcons_of rfl (fcons_of q0 fnil_of)
  obtain ⟨ρ3, h3, q1⟩ := fcallB_of (bx0 := bx) q0' rfl e1 rfl
  have h4 : ρ3 = [some (.bx, .list bx), some (.sh, .int (n : Int))] := by rcases h3 with ⟨h, _⟩ | h <;> exact h
  subst h4
  refine toF_of (fret_of (r := .sh (.tuple (Ns p))) (ρ1 := [some (.bx, .list bx1), some (.sh, .int (n : Int))]) (fcall0_of (rs := [.fr (.list (Ns o))]) (ρ1 := [some (.bx, .list bx1), some (.sh, .int (n : Int))]) (fcons_of q1 fnil_of) rfl e2 rfl)) rfl
end Sh
set_option Elab.async false
set_option linter.all false
set_option maxRecDepth 100000
set_option maxHeartbeats 4000000
namespace Sh
open PySem PySem.Spec PyProof.Rows L2 DL
def Is (l : List Int) : List D := l.map .int
@[simp] theorem Is_len (l : List Int) : (Is l).length = l.length := by simp [Is]
theorem Is_get (l : List Int) (i : Nat) : (Is l)[i]? = l[i]?.map .int := by simp [Is]
theorem Is_set (l : List Int) (i : Nat) (x : Int) : (Is l).set i (.int x) = Is (l.set i x) := by simp [Is, List.map_set]
theorem is_lay : ∀ l : List Int, PyData.canLayAll0 (Is l) = true
  | [] => by simp [Is, PyData.canLayAll0]
  | x :: l => by
    have := is_lay l
    simp only [Is] at this
    simp [Is, PyData.canLayAll0, PyData.canLay0, this]
theorem is_depth : ∀ l : List Int, PyData.depthAll (Is l) = 0
  | [] => by simp [Is, PyData.depthAll]
  | x :: l => by
    have := is_depth l
    simp only [Is] at this
    simp [Is, PyData.depthAll, PyData.depth, this]
theorem is_shL (l : List Int) : SeqAt.shaped (.list (Is l)) = true := by simp [SeqAt.shaped, PyData.canLay0, PyData.depth, is_lay, is_depth]
theorem ne_nilI (l : List Int) : gNe (.list (Is l)) (.list []) = some (.it (.bool (!l.isEmpty))) := by
  have e : eqDD (.list (Is l)) (.list []) = some (PyData.eqv (.list (Is l)) (.list [])) := by
    have h := is_shL l
    have h2 := is_shL []
    show (if SeqAt.shaped (.list (Is l)) && SeqAt.shaped (.list []) then some (PyData.eqv (.list (Is l)) (.list [])) else none) = _
    rw [h, show SeqAt.shaped (.list []) = true from h2]; rfl
  unfold gNe
  rw [e]
  cases l with
  | nil => simp [Is, PyData.eqv, PyData.eqvAll]
  | cons a l => simp [Is, PyData.eqv, PyData.eqvAll]
theorem cut_lo (l : List Int) (m : Nat) : DL.cutD (Is l) none (some (m : Int)) = Is (l.take m) := by
  unfold DL.cutD
  rw [HT.sIx_nat]
  show (((Is l).drop 0).take (min m (Is l).length - 0)) = _
  rw [List.drop_zero, Nat.sub_zero]
  simp only [Is, List.length_map, List.map_take]
  by_cases h : m ≤ l.length
  · rw [Nat.min_eq_left h]
  · rw [Nat.min_eq_right (by omega), List.take_of_length_le (by simp), List.take_of_length_le (by simp; omega)]
theorem cut_hi (l : List Int) (m : Nat) (hl : l.length ≤ 63) : DL.cutD (Is l) (some (m : Int)) (some (63 : Int)) = Is (l.drop m) := by
  unfold DL.cutD
  rw [HT.sIx_nat, show (63 : Int) = ((63 : Nat) : Int) from rfl, HT.sIx_nat]
  simp only [Is, List.length_map, List.map_drop]
  rw [show min 63 l.length = l.length by omega, List.take_of_length_le (by simp)]
  by_cases h : m ≤ l.length
  · rw [Nat.min_eq_left h]
  · rw [Nat.min_eq_right (by omega), List.drop_eq_nil_of_le (by simp), List.drop_eq_nil_of_le (by simp; omega)]
theorem cells_spec {ns : List Int} {m : Nat} (h0 : 1 ≤ m) (h1 : m ≤ 60) (hn : ns.length ≤ 63) :
    ∃ cs : List Int, F_law_cells [.list (Is ns), .int (m : Int)] = some ⟨true, .list (Is cs), []⟩ ∧ 1 ≤ cs.length ∧ cs.length ≤ m := by
  obtain ⟨ρ', e1, x, y, cs, rfl, hcl⟩ := forD_inv (b := btup 2 (bcons (bname 3) (bcons (bname 4) bnil))) (body := fasg (bsub 2 (fop2 gMod (fvar 3) (fvar 1))) (fop2 gAdd (fop2 gIx (fvar 2) (fop2 gMod (fvar 3) (fvar 1))) (fop2 gMul (fvar 4) (fop2 gAdd (fvar 3) (fc (.int 2))))))
    (fun _ ρ => ∃ (x y : Option (Fl × D)) (cs : List Int), ρ = [some (.sh, .list (Is ns)), some (.sh, .int (m : Int)), some (.ow, .list (Is cs)), x, y] ∧ cs.length = min m ns.length)
    (enD 0 (Is (ns.drop m))) 0 [some (.sh, .list (Is ns)), some (.sh, .int (m : Int)), some (.ow, .list (Is (ns.take m))), none, none] ⟨none, none, _, rfl, by simp⟩ (by
      rintro j d ρ hj ⟨x, y, cs, rfl, hcl⟩
      have hjl : j < (Is (ns.drop m)).length := by
        have := (List.getElem?_eq_some_iff.mp hj).1
        rwa [enD_len] at this
      have hjl' : j < (ns.drop m).length := by simpa using hjl
      have hmn : m < ns.length := by simp at hjl'; omega
      have hd := enD_get (Is (ns.drop m)) 0 j (.int (ns.drop m)[j]) (by rw [Is_get, List.getElem?_eq_getElem hjl']; rfl)
      rw [hj, Nat.zero_add] at hd
      have hd := Option.some.inj hd
      subst hd
      generalize (ns.drop m)[j] = c
      have hjm : j % m < cs.length := by
        have := Nat.mod_lt j (show 0 < m by omega)
        omega
      have hjb : j < 63 := by simp at hjl'; omega
      have em : (j : Int) % (m : Int) = ((j % m : Nat) : Int) := by rw [Int.natCast_emod]
      have ea : atI (Is cs) ((j : Int) % (m : Int)) = some (.int cs[j % m]) := by rw [em, atI_nat, Is_get, List.getElem?_eq_getElem hjm]; rfl
      have ei : ixN cs.length ((j : Int) % (m : Int)) = some (j % m) := by rw [em]; exact ixN_int rfl hjm
      have hmul : CMul c ((j : Int) + 2) ∨ CMulW c ((j : Int) + 2) := .inl (.inr ⟨by omega, by omega⟩)
      have hm0 : (0 : Int) < (m : Int) := by omega
      generalize cs[j % m] = u at ea
      refine ⟨[some (.sh, .list (Is ns)), some (.sh, .int (m : Int)), some (.ow, .list (Is cs)), some (.sh, .int (j : Int)), some (.sh, .int c)], [some (.sh, .list (Is ns)), some (.sh, .int (m : Int)), some (.ow, .list (Is (cs.set (j % m) (u + c * ((j : Int) + 2))))), some (.sh, .int (j : Int)), some (.sh, .int c)], ?_, ?_, _, _, _, rfl, by simpa using hcl⟩
      · simp
      · have q1 : fop2 gMod (fvar 3) (fvar 1) [some (.sh, .list (Is ns)), some (.sh, .int (m : Int)), some (.ow, .list (Is cs)), some (.sh, .int (j : Int)), some (.sh, .int c)] = some (.sh (.int ((j : Int) % (m : Int))), [some (.sh, .list (Is ns)), some (.sh, .int (m : Int)), some (.ow, .list (Is cs)), some (.sh, .int (j : Int)), some (.sh, .int c)]) := by
          simp [fvar, dat, gMod, show ¬ m = 0 by omega]
        have q2 : fop2 gMul (fvar 4) (fop2 gAdd (fvar 3) (fc (.int 2))) [some (.sh, .list (Is ns)), some (.sh, .int (m : Int)), some (.ow, .list (Is cs)), some (.sh, .int (j : Int)), some (.sh, .int c)] = some (.sh (.int (c * ((j : Int) + 2))), [some (.sh, .list (Is ns)), some (.sh, .int (m : Int)), some (.ow, .list (Is cs)), some (.sh, .int (j : Int)), some (.sh, .int c)]) := by
          simp [fvar, dat, gMul, gAdd, hmul]
        generalize fop2 gMul (fvar 4) (fop2 gAdd (fvar 3) (fc (.int 2))) = G2 at q2 ⊢
        generalize fop2 gMod (fvar 3) (fvar 1) = G1 at q1 ⊢
        generalize (j : Int) % (m : Int) = k at *
        generalize c * ((j : Int) + 2) = w at *
        simp [q1, q2, fvar, dat, gIx, ea, gAdd, rel, bsub, bsub1, ei, Is_set])
  by_cases hz : cs = []
  · subst hz
    refine ⟨[0], ?_, by simp, by simpa using h0⟩
    refine toF_of (fseq_nx (ρ1 := [some (.sh, .list (Is ns)), some (.sh, .int (m : Int)), some (.ow, .list (Is (ns.take m))), none, none]) ?_ (fseq_nx (ffor_of (ds := enD 0 (Is (ns.drop m))) (ρ1 := [some (.sh, .list (Is ns)), some (.sh, .int (m : Int)), some (.ow, .list (Is (ns.take m))), none, none]) ?_ e1) (fret_of (r := .fr (.list [.int 0])) (ρ1 := [some (.sh, .list (Is ns)), some (.sh, .int (m : Int)), some (.ow, .list (Is [])), x, y]) ?_))) rfl
    · simp [en0, enA, fvar, dat, datA, relA, rel, gSl, cut_lo, gList, fosome, storeA]
    · simp [fien, fvar, dat, gSl, cut_hi ns m hn, fosome, rel]
    · simp [fbool, fvar, dat, datA, relA, rel, ne_nilI]
  · refine ⟨cs, ?_, List.length_pos_iff.mpr hz, by omega⟩
    refine toF_of (fseq_nx (ρ1 := [some (.sh, .list (Is ns)), some (.sh, .int (m : Int)), some (.ow, .list (Is (ns.take m))), none, none]) ?_ (fseq_nx (ffor_of (ds := enD 0 (Is (ns.drop m))) (ρ1 := [some (.sh, .list (Is ns)), some (.sh, .int (m : Int)), some (.ow, .list (Is (ns.take m))), none, none]) ?_ e1) (fret_of (r := .al 2) (ρ1 := [some (.sh, .list (Is ns)), some (.sh, .int (m : Int)), some (.ow, .list (Is cs)), x, y]) ?_))) rfl
    · simp [en0, enA, fvar, dat, datA, relA, rel, gSl, cut_lo, gList, fosome, storeA]
    · simp [fien, fvar, dat, gSl, cut_hi ns m hn, fosome, rel]
    · simp [fbool, fvar, dat, datA, relA, rel, ne_nilI, hz]
theorem box_spec {cs : List Int} {k : Nat} (hk : k < cs.length) (hl : k ≤ 63) :
    ∃ bx : List D, F_law_box [.list (Is cs), .int (k : Int)] = some ⟨true, .list bx, []⟩ ∧ BoxOk 0 bx := by
  have ea : atI (Is cs) (k : Int) = some (.int cs[k]) := by rw [atI_nat, Is_get, List.getElem?_eq_getElem hk]; rfl
  generalize cs[k] = c at ea
  have hk' : (k : Int) < (cs.length : Nat) := by omega
  have hp : gPow (.int 10) (.int 18) = some (.it (.int 1000000000000000000)) := gPow10 18 (by omega) (by omega)
  generalize hA : (if c < 0 then -c else c) = A
  have hA0 : 0 ≤ A := by rw [← hA]; split <;> omega
  generalize hB : (if (1000000000000000000 : Int) ≤ A then (1 : Int) else 0) = B
  have hB0 : 0 ≤ B ∧ B ≤ 1 := by rw [← hB]; split <;> omega
  have m1 : CMul A B ∨ CMulW A B := .inl (.inr ⟨by omega, by omega⟩)
  have m2 : CMul 7919 (k : Int) ∨ CMulW 7919 (k : Int) := .inl (.inr ⟨by omega, by omega⟩)
  have h2 := Int.emod_nonneg c (show (2305843009213693951 : Int) ≠ 0 by omega)
  have h3 := Int.emod_lt_of_pos c (show (0 : Int) < 2305843009213693951 by omega)
  refine ⟨[.int (A * B), .int (c % 2305843009213693951 + 7919 * (k : Int) + 41), .int 0], ?_, _, _, _, rfl, Int.mul_nonneg hA0 hB0.1, by omega, by omega, by omega, by omega⟩
  have e0 : en0 none 3 [.list (Is cs), .int (k : Int)] = [some (.sh, .list (Is cs)), some (.sh, .int (k : Int)), none] := rfl
  have qa : fopA gAbs (fcons (fvar 2) fnil) [some (.sh, .list (Is cs)), some (.sh, .int (k : Int)), some (.sh, .int c)] = some (.sh (.int A), [some (.sh, .list (Is cs)), some (.sh, .int (k : Int)), some (.sh, .int c)]) := by
    simp [fvar, dat, datA, gAbs, hA]
  have qb : fopA gInt (fcons (fop2 gGe (fopA gAbs (fcons (fvar 2) fnil)) (fop2 gPow (fc (.int 10)) (fc (.int 18)))) fnil) [some (.sh, .list (Is cs)), some (.sh, .int (k : Int)), some (.sh, .int c)] = some (.sh (.int B), [some (.sh, .list (Is cs)), some (.sh, .int (k : Int)), some (.sh, .int c)]) := by
    rw [← hB]
    generalize fopA gAbs (fcons (fvar 2) fnil) = G at qa ⊢
    simp [qa, dat, datA, gIb, hp, gInt]
  have qc : fop2 gAdd (fop2 gAdd (fop2 gMod (fvar 2) (fc (.int 2305843009213693951))) (fop2 gMul (fc (.int 7919)) (fvar 1))) (fc (.int 41)) [some (.sh, .list (Is cs)), some (.sh, .int (k : Int)), some (.sh, .int c)] = some (.sh (.int (c % 2305843009213693951 + 7919 * (k : Int) + 41)), [some (.sh, .list (Is cs)), some (.sh, .int (k : Int)), some (.sh, .int c)]) := by
    simp [fvar, dat, gMod, gMul, m2, gAdd]
  unfold F_law_box
  generalize fop2 gAdd (fop2 gAdd (fop2 gMod (fvar 2) (fc (.int 2305843009213693951))) (fop2 gMul (fc (.int 7919)) (fvar 1))) (fc (.int 41)) = G3 at qc ⊢
  generalize fopA gInt (fcons (fop2 gGe (fopA gAbs (fcons (fvar 2) fnil)) (fop2 gPow (fc (.int 10)) (fc (.int 18)))) fnil) = G2 at qb ⊢
  generalize fopA gAbs (fcons (fvar 2) fnil) = G1 at qa ⊢
  refine toF_of (fseq_nx (ρ1 := [some (.sh, .list (Is cs)), some (.sh, .int (k : Int)), some (.sh, .int c)]) ?_ (fret_of (r := .fr (.list [.int (A * B), .int (c % 2305843009213693951 + 7919 * (k : Int) + 41), .int 0])) (ρ1 := [some (.sh, .list (Is cs)), some (.sh, .int (k : Int)), some (.sh, .int c)]) ?_)) rfl
  · rw [e0]
    simp [fbool, fvar, dat, datA, gIb, gLen, hk', gIx, ea, relA, rel, storeA]
  · generalize c % 2305843009213693951 + 7919 * (k : Int) + 41 = w at *
    simp [qa, qb, qc, dat, datA, gMul, m1, relA, rel]
/-- a call that changes its list argument, which is at slot j -/
theorem fcallJ_of {j : Nat} {F : FS} {fs : Fa} {ρ ρ1 : En} {rs : List RV} {ds bx bx0 : List D} {d : D} {fl : Fl} (h : fs ρ = some (.al j :: rs, ρ1)) (hd : datA ρ1 (.al j :: rs) = some ds) (hF : F ds = some ⟨false, d, bx⟩) (hl : atom d = true) (hb : bx.all atom = true) (hfl : fl ≠ .sh) (h1 : ρ1[j]? = some (some (fl, .list bx0)) := by rfl) (ha : hasAl j (.sh .none :: rs) = false := by rfl) : fcall (some 0) F fs ρ = some (.sh d, ρ1.set j (some (fl, .list bx))) := by
  have e : lone (some 0) ⟨false, d, bx⟩ = true := by simp only [lone, hl, hb, Bool.true_and, Bool.or_true]
  have ha' : hasAl j ((.al j :: rs).set 0 (RV.sh .none)) = false := ha
  rw [s_fcall, h, Option.bind_some, hd, Option.bind_some, hF, Option.bind_some]
  unfold fcallEnd
  rw [e, if_pos rfl, Option.bind_some]
  show (if hasAl j ((.al j :: rs).set 0 (RV.sh .none)) then none else _) = _
  rw [ha', if_neg (by decide), h1]
  cases fl with
  | sh => exact absurd rfl hfl
  | ow => rfl
  | bx => rfl
/-- a part of a law, asked of one source of draws: it holds and moves the source on by b at most -/
def PartOk (b : Nat) (R : FS) : Prop := ∀ (k : Nat) (bx : List D), BoxOk k bx → k + b < 2 ^ 40 → ∃ bx' : List D, R [.list bx] = some ⟨false, .bool true, bx'⟩ ∧ BoxOk (k + b) bx'
/-- the law's own loop: so many cells, so many turns -/
def F_lawG (R : FS) (cells turns : Int) : FS := toF 1 5 none (fseq (fset [1] (f1 (fcall none F_law_cells (fcons (fvar 0) (fcons (fc (.int cells)) fnil)))))
    (fseq (ffor (firng1 (fcons (fopA gLen (fcons (fvar 1) fnil)) fnil)) (bname 2) (fseq (fset [3] (f1 (fcall none F_law_box (fcons (fvar 1) (fcons (fvar 2) fnil)))))
    (fifS (fnotT (fbool (fopA gAll (fcons (flc [4] (firng1 (fcons (fc (.int turns)) fnil)) (bname 4) ftrue (fcall (some 0) R (fcons (fvar 3) fnil))) fnil)))) (fret (fc (.bool false))) fskip)))
    (fret (fc (.bool true)))))
theorem all_true {es : List D} (h : ∀ e ∈ es, e = .bool true) : gAll [.list es] = some (.it (.bool true)) := by
  have : ∀ es : List D, (∀ e ∈ es, e = .bool true) → boolsOf es = some (List.replicate es.length true) := fun es => by
    induction es with
    | nil => intro _; rfl
    | cons e es ih =>
      intro h
      rw [h e List.mem_cons_self, boolsOf, ih fun e he => h e (List.mem_cons_of_mem _ he)]
      rfl
  show (boolsOf es).map _ = _
  rw [this es h]
  simp
theorem lawG_ok {R : FS} {b cells turns : Nat} (hR : PartOk b R) (hb : turns * b < 2 ^ 30) (h0 : 1 ≤ cells) (h1 : cells ≤ 60) (ht : turns ≤ 1000) : DL.LawOk (F_lawG R cells turns) := fun ns hn => by
  obtain ⟨cs, e1, hc0, hc1⟩ := cells_spec (ns := ns) h0 h1 hn
  obtain ⟨ρ', e2, f, x, y, hf, hI⟩ := forD_inv (b := bname 2) (body := fseq (fset [3] (f1 (fcall none F_law_box (fcons (fvar 1) (fcons (fvar 2) fnil)))))
    (fifS (fnotT (fbool (fopA gAll (fcons (flc [4] (firng1 (fcons (fc (.int turns)) fnil)) (bname 4) ftrue (fcall (some 0) R (fcons (fvar 3) fnil))) fnil)))) (fret (fc (.bool false))) fskip))
    (fun _ ρ => ∃ f x y, f ≠ Fl.bx ∧ ρ = [some (.sh, .list (Is ns)), some (f, .list (Is cs)), x, y, none]) (rgD 0 1 cs.length) 0 [some (.sh, .list (Is ns)), some (.ow, .list (Is cs)), none, none, none] ⟨.ow, none, none, by decide, rfl⟩ (by
      rintro j d ρ hj ⟨f, x, y, hf, rfl⟩
      obtain ⟨hjl, rfl⟩ := rgD_get hj
      rw [show (0 : Int) + (j : Int) * 1 = (j : Int) by omega]
      obtain ⟨bx, e3, hbx⟩ := box_spec (cs := cs) (k := j) hjl (by omega)
      have hlc := lcD_inv (own := [4]) (b := bname 4) (t := ftrue) (elt := fcall (some 0) R (fcons (fvar 3) fnil))
        (fun i ρ => ∃ bx, BoxOk (i * b) bx ∧ ρ = [some (.sh, .list (Is ns)), some (.sh, .list (Is cs)), some (.sh, .int (j : Int)), some (.ow, .list bx), none])
        (fun e => e = .bool true) (rgD 0 1 turns) [] 0 [some (.sh, .list (Is ns)), some (.sh, .list (Is cs)), some (.sh, .int (j : Int)), some (.ow, .list bx), none] ⟨bx, by simpa using hbx, rfl⟩ (fun e he => nomatch he) (by
          rintro i d ρ hi ⟨bx, hbx, rfl⟩
          obtain ⟨hil, -⟩ := rgD_get hi
          have hib : (0 + i) * b ≤ turns * b := Nat.mul_le_mul_right b (by omega)
          have hi1 : (0 + i + 1) * b = (0 + i) * b + b := Nat.succ_mul _ _
          have hi2 : (0 + i + 1) * b ≤ turns * b := Nat.mul_le_mul_right b (by omega)
          obtain ⟨bx', e4, h4⟩ := hR _ bx hbx (by omega)
          have q := fcallJ_of (j := 3) (fl := .ow) (fs := fcons (fvar 3) fnil) (ρ := [some (.sh, .list (Is ns)), some (.sh, .list (Is cs)), some (.sh, .int (j : Int)), some (.ow, .list bx), some (.sh, d)]) rfl rfl e4 rfl h4.atoms (by decide)
          exact ⟨[some (.sh, .list (Is ns)), some (.sh, .list (Is cs)), some (.sh, .int (j : Int)), some (.ow, .list bx), some (.sh, d)], _, _, _, _, .bool true, rfl, rfl, q, rfl, rfl, rfl, bx', by rw [hi1]; exact h4, rfl⟩) (by rw [rgD_len, List.length_nil]; omega)
      obtain ⟨es, ρ2, e5, h5, h6, bx3, hb3, rfl⟩ := hlc
      refine ⟨[some (.sh, .list (Is ns)), some (f, .list (Is cs)), some (.sh, .int (j : Int)), y, none], [some (.sh, .list (Is ns)), some (.sh, .list (Is cs)), some (.sh, .int (j : Int)), some (.ow, .list bx3), none], rfl, ?_, .sh, _, _, by decide, rfl⟩
      have s1 : fset [3] (f1 (fcall none F_law_box (fcons (fvar 1) (fcons (fvar 2) fnil)))) [some (.sh, .list (Is ns)), some (f, .list (Is cs)), some (.sh, .int (j : Int)), y, none] = some (.nx [some (.sh, .list (Is ns)), some (.sh, .list (Is cs)), some (.sh, .int (j : Int)), some (.ow, .list bx), none]) := by
        generalize F_law_box = B at e3 ⊢
        cases f with
        | bx => exact absurd rfl hf
        | ow => simp [fvar, dat, datA, e3, atom, relA, rel, storeA]
        | sh => simp [fvar, dat, datA, e3, atom, relA, rel, storeA]
      have s2 := flc_of (gi := firng1 (fcons (fc (.int turns)) fnil)) (firng1_of (t := turns) rfl rfl (by omega)) e5
      refine fseq_nx s1 ?_
      generalize flc [4] (firng1 (fcons (fc (.int turns)) fnil)) (bname 4) ftrue (fcall (some 0) R (fcons (fvar 3) fnil)) = G at s2 ⊢
      have := all_true h5
      simp [s2, fbool, datA, dat, this])
  subst hI
  have e1' : F_law_cells [.list (List.map PyData.int ns), .int (cells : Int)] = some ⟨true, .list (Is cs), []⟩ := e1
  refine ⟨[], toF_of (fseq_nx (ρ1 := [some (.sh, .list (Is ns)), some (.ow, .list (Is cs)), none, none, none]) ?_ (fseq_nx (ffor_of (ds := rgD 0 1 cs.length) (ρ1 := [some (.sh, .list (Is ns)), some (.ow, .list (Is cs)), none, none, none]) (firng1_of (rs := [.sh (.int (cs.length : Nat))]) ?_ rfl (by omega)) e2) (fret_of (r := .sh (.bool true)) rfl))) rfl⟩
  · rw [show en0 none 5 [.list (List.map PyData.int ns)] = [some (.sh, .list (Is ns)), none, none, none, none] from rfl]
    generalize F_law_cells = C at e1 ⊢
    simp [fvar, dat, datA, e1, atom, relA, rel, storeA]
  · simp [fvar, dat, datA, gLen]
end Sh
set_option Elab.async false
set_option linter.all false
set_option maxRecDepth 100000
set_option maxHeartbeats 4000000
namespace Sh
open PySem PySem.Spec PyProof.Rows L2 DL
def F_people_of : FS := toF 1 1 none (fret (fop2 gFdiv (fopA gLen (fcons (fvar 0) fnil)) (fc (.int 2))))
def F_look_person : FS := toF 2 2 none (fifS (fnotT (fbool (fchain gLe gLt (fc (.int 0)) (fvar 1) (fvar 0)))) fnever fskip)
def F_look_call : FS := toF 2 3 none (ffor (fiseq (fvar 1)) (bname 2) (fdrop (fcall none F_look_person (fcons (fvar 0) (fcons (fvar 2) fnil)))))
def F_empty_sheet : FS := toF 1 1 none (fret (fopA gTuple (fcons (fop2 gAdd (flrg2 (fvar 0) (fop2 gMul (fc (.int 2)) (fvar 0))) (flrg1 (fvar 0))) fnil)))
def F_with_joins : FS := toF 2 5 none (fseq (fset [2] (f1 (fopA gList (fcons (fvar 0) fnil))))
    (fseq (ffor (fiseq (fvar 1)) (btup 2 (bcons (bname 3) (bcons (bname 4) bnil))) (fasg (btup 2 (bcons (bsub 2 (fvar 3)) (bcons (bsub 2 (fvar 4)) bnil))) (ftup (fcons (fvar 4) (fcons (fvar 3) fnil)))))
    (fret (fopA gTuple (fcons (fvar 2) fnil)))))
def F_added : FS := toF 2 5 none (fseq (fset [2] (f1 (fcall none F_people_of (fcons (fvar 0) fnil))))
    (fseq (fset [3, 4] (fcons (fop2 gAdd (fvar 2) (fop2 gIx (fvar 1) (fc (.int 0)))) (fcons (fop2 gAdd (fvar 2) (fop2 gIx (fvar 1) (fc (.int 1)))) fnil)))
    (fseq (fifS (fbool (fop2 gEq (fop2 gIx (fvar 0) (fvar 3)) (fvar 4))) (fret (fopA gTuple (fcons (fvar 0) fnil))) fskip)
    (fret (fcall none F_with_joins (fcons (fvar 0) (fcons (flst (fcons (ftup (fcons (fop2 gIx (fvar 0) (fvar 3)) (fcons (fop2 gIx (fvar 0) (fvar 4)) fnil))) (fcons (ftup (fcons (fvar 3) (fcons (fvar 4) fnil))) fnil))) fnil)))))))
def F_with_call : FS := toF 2 2 none (fseq (fdrop (fcall none F_look_call (fcons (fcall none F_people_of (fcons (fvar 0) fnil)) (fcons (fvar 1) fnil))))
    (fret (fcall none F_added (fcons (fvar 0) (fcons (fvar 1) fnil)))))
def gt (s : List Nat) (i : Nat) : Nat := s.getD i 0
theorem gt_some {s : List Nat} {i : Nat} (h : i < s.length) : s[i]? = some (gt s i) := by
  unfold gt
  rw [List.getD_eq_getElem?_getD, List.getElem?_eq_getElem h]; rfl
theorem gt_of {s : List Nat} {i x : Nat} (h : s[i]? = some x) : gt s i = x := by
  unfold gt
  rw [List.getD_eq_getElem?_getD, h]; rfl
theorem gt_set {s : List Nat} {i v : Nat} (j : Nat) (h : i < s.length) : gt (s.set i v) j = if j = i then v else gt s j := by
  unfold gt
  rw [List.getD_eq_getElem?_getD, List.getD_eq_getElem?_getD, List.getElem?_set]
  by_cases e : i = j
  · subst e; simp [h]
  · rw [if_neg e, if_neg (Ne.symm e)]
theorem Joined.lt {n : Nat} {p : List Nat} (h : Joined n p) {x : Nat} (hx : x < n) : gt p x < n := by
  obtain ⟨y, h1, h2, _⟩ := h.ok x hx
  rwa [gt_of h1]
theorem Joined.ne {n : Nat} {p : List Nat} (h : Joined n p) {x : Nat} (hx : x < n) : gt p x ≠ x := by
  obtain ⟨y, h1, h2, h3, _⟩ := h.ok x hx
  rwa [gt_of h1]
theorem Joined.gg {n : Nat} {p : List Nat} (h : Joined n p) {x : Nat} (hx : x < n) : gt p (gt p x) = x := by
  obtain ⟨y, h1, h2, h3, h4⟩ := h.ok x hx
  rw [gt_of h1, gt_of h4]
theorem Joined.mk' {n : Nat} {p : List Nat} (h0 : p.length = n) (h : ∀ x, x < n → gt p x < n ∧ gt p x ≠ x ∧ gt p (gt p x) = x) : Joined n p :=
  ⟨h0, fun x hx => ⟨gt p x, gt_some (by omega), (h x hx).1, (h x hx).2.1, by
    have := (h x hx).1
    rw [gt_some (by omega), (h x hx).2.2]⟩⟩
theorem Joined.inj {n : Nat} {p : List Nat} (h : Joined n p) {x y : Nat} (hx : x < n) (hy : y < n) (e : gt p x = gt p y) : x = y := by
  rw [← h.gg hx, ← h.gg hy, e]
/-- the sheet after a call -/
def addS (n : Nat) (s : List Nat) (a b : Nat) : List Nat :=
  if gt s (n + a) = n + b then s else (((s.set (gt s (n + a)) (gt s (n + b))).set (gt s (n + b)) (gt s (n + a))).set (n + a) (n + b)).set (n + b) (n + a)
theorem addS_len (n : Nat) (s : List Nat) (a b : Nat) : (addS n s a b).length = s.length := by
  unfold addS; split <;> simp
section
variable {n a b : Nat} {s : List Nat} (J : Joined (2 * n) s) (hab : a < b) (hb : b < n)
include J hab hb
theorem addS_get (e : Nat) : gt (addS n s a b) e = if e = n + b then n + a else if e = n + a then n + b else if gt s (n + a) = n + b then gt s e else if e = gt s (n + b) then gt s (n + a) else if e = gt s (n + a) then gt s (n + b) else gt s e := by
  have hl := J.len
  unfold addS
  by_cases h : gt s (n + a) = n + b
  · rw [if_pos h, if_pos h]
    split
    · next he => subst he; rw [← h, J.gg (by omega)]
    · split
      · next he => subst he; exact h
      · rfl
  · rw [if_neg h, if_neg h]
    have h1 := J.lt (x := n + a) (by omega)
    have h2 := J.lt (x := n + b) (by omega)
    rw [gt_set _ (by simp; omega), gt_set _ (by simp; omega), gt_set _ (by simp; omega), gt_set _ (by omega)]
theorem addS_joined : Joined (2 * n) (addS n s a b) := by
  refine Joined.mk' (by rw [addS_len, J.len]) fun x hx => ?_
  have h1 := J.lt (x := n + a) (by omega)
  have h2 := J.lt (x := n + b) (by omega)
  have h3 := J.lt hx
  have h4 := J.ne hx
  have h5 := J.gg hx
  have h6 := J.gg (x := n + a) (by omega)
  have h7 := J.gg (x := n + b) (by omega)
  have h8 := J.ne (x := n + a) (by omega)
  have h9 := J.ne (x := n + b) (by omega)
  have i1 := @Joined.inj _ _ J x (n + a) hx (by omega)
  have i2 := @Joined.inj _ _ J x (n + b) hx (by omega)
  have i3 := @Joined.inj _ _ J (n + a) (n + b) (by omega) (by omega)
  have E := addS_get J hab hb
  by_cases h : gt s (n + a) = n + b
  · have : addS n s a b = s := by unfold addS; rw [if_pos h]
    rw [this]; exact ⟨h3, h4, h5⟩
  have hY : gt s (n + b) ≠ n + a := fun e => by
    rw [e] at h7; exact h h7
  have hXY : gt s (n + a) ≠ gt s (n + b) := fun e => by have := i3 e; omega
  simp only [if_neg h] at E
  generalize hXd : gt s (n + a) = X at *
  generalize hYd : gt s (n + b) = Y at *
  by_cases c1 : x = n + b
  · subst c1
    rw [E (n + b), if_pos rfl, E (n + a), if_neg (by omega), if_pos rfl]
    omega
  by_cases c2 : x = n + a
  · subst c2
    rw [E (n + a), if_neg (by omega), if_pos rfl, E (n + b), if_pos rfl]
    omega
  by_cases c3 : x = Y
  · subst c3
    rw [E x, if_neg c1, if_neg c2, if_pos rfl, E X, if_neg h, if_neg h8, if_neg hXY, if_pos rfl]
    omega
  by_cases c4 : x = X
  · subst c4
    rw [E x, if_neg c1, if_neg c2, if_neg c3, if_pos rfl, E Y, if_neg h9, if_neg hY, if_pos rfl]
    omega
  rw [E x, if_neg c1, if_neg c2, if_neg c3, if_neg c4, E (gt s x)]
  have d1 : gt s x ≠ n + b := fun e => c3 (by rw [e, hYd] at h5; exact h5.symm)
  have d2 : gt s x ≠ n + a := fun e => c4 (by rw [e, hXd] at h5; exact h5.symm)
  have d3 : gt s x ≠ Y := fun e => c1 (i2 e)
  have d4 : gt s x ≠ X := fun e => c2 (i1 e)
  rw [if_neg d1, if_neg d2, if_neg d3, if_neg d4]
  exact ⟨h3, h4, h5⟩
end
end Sh
set_option Elab.async false
set_option linter.all false
set_option maxRecDepth 100000
set_option maxHeartbeats 4000000
namespace Sh
open PySem PySem.Spec PyProof.Rows L2 DL
theorem cutN_lo (xs : List D) (m : Nat) : DL.cutD xs none (some (m : Int)) = xs.take m := by
  unfold DL.cutD
  rw [HT.sIx_nat]
  show ((xs.drop 0).take (min m xs.length - 0)) = _
  rw [List.drop_zero, Nat.sub_zero]
  by_cases h : m ≤ xs.length
  · rw [Nat.min_eq_left h]
  · rw [Nat.min_eq_right (by omega), List.take_of_length_le (by omega), List.take_of_length_le (by omega)]
theorem cutN_hi (xs : List D) (m : Nat) : DL.cutD xs (some (m : Int)) none = xs.drop m := by
  unfold DL.cutD
  rw [HT.sIx_nat]
  show ((xs.drop (min m xs.length)).take (xs.length - min m xs.length)) = _
  by_cases h : m ≤ xs.length
  · rw [Nat.min_eq_left h, List.take_of_length_le (by simp)]
  · rw [Nat.min_eq_right (by omega), List.drop_eq_nil_of_le (by omega), List.drop_eq_nil_of_le (by omega), List.take_nil]
section
end
section
end
end Sh
set_option Elab.async false
set_option linter.all false
set_option maxRecDepth 100000
set_option maxHeartbeats 4000000
namespace Sh
open PySem PySem.Spec PyProof.Rows L2 DL
theorem atNs {s : List Nat} {i : Int} {k : Nat} (h : i = (k : Int)) (hk : k < s.length) : atI (Ns s) i = some (.int ((gt s k : Nat) : Int)) := by
  rw [atI_int _ h, Ns_get, gt_some hk]; rfl
theorem look_person_spec {n x : Nat} (h : x < n) : F_look_person [.int (n : Int), .int (x : Int)] = some ⟨false, .none, []⟩ := by
  have h1 : decide ((x : Int) < (n : Int)) = true := decide_eq_true (by omega)
  have h0 : decide ((0 : Int) ≤ (x : Int)) = true := decide_eq_true (by omega)
  simp [F_look_person, toF, en0, enA, fbool, fvar, dat, gIb, h0, h1, retO, bxOf, show ¬ n ≤ x by omega]
end Sh
set_option Elab.async false
set_option linter.all false
set_option maxRecDepth 100000
set_option maxHeartbeats 4000000
namespace Sh
open PySem PySem.Spec PyProof.Rows L2 DL
theorem gAdd_N {a b : Nat} : gAdd (N a) (N b) = some (.it (N (a + b))) := by
  show some (OutV.it (.int ((a : Int) + (b : Int)))) = _
  rw [← Int.natCast_add]
theorem gSub_N {a b : Nat} (h : b ≤ a) : gSub (N a) (N b) = some (.it (N (a - b))) := by
  show some (OutV.it (.int ((a : Int) - (b : Int)))) = _
  rw [← Int.ofNat_sub h]
theorem gSub_I {a b : Int} : gSub (.int a) (.int b) = some (.it (.int (a - b))) := rfl
theorem gMul_N {a b : Nat} (h : a < 2 ^ 64 ∨ b < 2 ^ 64) : gMul (N a) (N b) = some (.it (N (a * b))) := by
  show (if CMul (a : Int) (b : Int) ∨ CMulW (a : Int) (b : Int) then some (OutV.it (.int ((a : Int) * (b : Int)))) else none) = _
  rw [if_pos, ← Int.natCast_mul]
  left
  unfold CMul
  omega
theorem gFdiv_N {a b : Nat} (h : 0 < b) (h2 : b < 1073741824) : gFdiv (N a) (N b) = some (.it (N (a / b))) := by
  show (if CDiv (a : Int) (b : Int) ∨ CDivW (a : Int) (b : Int) then some (OutV.it (.int ((a : Int) / (b : Int)))) else none) = _
  rw [if_pos, ← Int.natCast_ediv]
  left
  unfold CDiv
  omega
theorem gMod_N {a b : Nat} (h : 0 < b) : gMod (N a) (N b) = some (.it (N (a % b))) := by
  show (if 0 < (b : Int) then some (OutV.it (.int ((a : Int) % (b : Int)))) else none) = _
  rw [if_pos (by omega), ← Int.natCast_emod]
theorem gPow_N {a b : Nat} (h : a < 2 ^ 60) (h2 : b ≤ 1000000) : gPow (N a) (N b) = some (.it (N (a ^ b))) := by
  show (if CPow (a : Int) (b : Int) then some (OutV.it (.int ((a : Int) ^ (b : Int).toNat))) else none) = _
  rw [if_pos, Int.toNat_natCast, ← Int.natCast_pow]
  unfold CPow
  omega
theorem gLt_N {a b : Nat} : gLt (N a) (N b) = some (.it (.bool (decide (a < b)))) := by
  show some (OutV.it (.bool (decide ((a : Int) < (b : Int))))) = _
  simp only [Int.ofNat_lt]
theorem gLe_N {a b : Nat} : gLe (N a) (N b) = some (.it (.bool (decide (a ≤ b)))) := by
  show some (OutV.it (.bool (decide ((a : Int) ≤ (b : Int))))) = _
  simp only [Int.ofNat_le]
theorem gEq_N {a b : Nat} : gEq (N a) (N b) = some (.it (.bool (decide (a = b)))) := by
  show some (OutV.it (.bool (decide ((a : Int) = (b : Int))))) = _
  simp only [Int.natCast_inj]
theorem gNe_N {a b : Nat} : gNe (N a) (N b) = some (.it (.bool (!decide (a = b)))) := by
  show some (OutV.it (.bool (!decide ((a : Int) = (b : Int))))) = _
  simp only [Int.natCast_inj]
theorem gEq_I {a b : Int} : gEq (.int a) (.int b) = some (.it (.bool (decide (a = b)))) := rfl
theorem gEq_B {a b : Bool} : gEq (.bool a) (.bool b) = some (.it (.bool (decide (a = b)))) := rfl
theorem gNe_B {a b : Bool} : gNe (.bool a) (.bool b) = some (.it (.bool (!decide (a = b)))) := rfl
theorem gNeg_N {a : Nat} : gNeg (N a) = some (.it (.int (-(a : Int)))) := rfl
theorem gIx_T {s : List Nat} {i : Nat} (h : i < s.length) : gIx (.tuple (Ns s)) (N i) = some (.it (N (gt s i))) := by
  show (atI (Ns s) _).map _ = _
  rw [atNs rfl h]; rfl
theorem gIx_L {s : List Nat} {i : Nat} (h : i < s.length) : gIx (.list (Ns s)) (N i) = some (.it (N (gt s i))) := by
  show (atI (Ns s) _).map _ = _
  rw [atNs rfl h]; rfl
theorem gIx_pr0 {a b : D} : gIx (.tuple [a, b]) (N 0) = some (.it a) := rfl
theorem gIx_at {l : List D} {i : Nat} {d : D} (h : l[i]? = some d) : gIx (.list l) (N i) = some (.it d) := by
  show (atI l (i : Int)).map _ = _
  rw [atI_nat, h]; rfl
theorem gLen_T {s : List Nat} : gLen [.tuple (Ns s)] = some (.it (N s.length)) := by simp [gLen]
theorem gLen_L {s : List Nat} : gLen [.list (Ns s)] = some (.it (N s.length)) := by simp [gLen]
theorem gLen_l {s : List D} : gLen [.list s] = some (.it (N s.length)) := rfl
theorem gLen_t {s : List D} : gLen [.tuple s] = some (.it (N s.length)) := rfl
theorem gList_L {s : List D} : gList [.list s] = some (.nl s) := rfl
theorem gList_T {s : List D} : gList [.tuple s] = some (.nl s) := rfl
theorem gTuple_L {s : List D} : gTuple [.list s] = some (.nt s) := rfl
theorem gTuple_T {s : List D} : gTuple [.tuple s] = some (.it (.tuple s)) := rfl
theorem gAdd_L {a b : List D} (h : a.length + b.length ≤ 16777216) : gAdd (.list a) (.list b) = some (.nl (a ++ b)) := by
  show (if a.length + b.length ≤ 16777216 then some (OutV.nl (a ++ b)) else none) = _
  rw [if_pos h]
theorem Ns_app (a b : List Nat) : Ns a ++ Ns b = Ns (a ++ b) := by simp [Ns]
theorem gAppend_d {s : List D} {x : D} (h : s.length < 16777216) : gAppend s [x] = some (.none, s ++ [x]) := by
  show (if s.length < 16777216 then some (PyData.none, s ++ [x]) else none) = _
  rw [if_pos h]
def LcQ (own : List Nat) (b : Fg) (t : Ft) (elt : Fe) (ρ : En) (ds : List D) (K : List D → En → Prop) : Prop := noOwn ρ own = true ∧ ∃ es ρ', lcD own b t elt ds ρ [] = some (es, ρ') ∧ K es ρ'
theorem ex_lc {own : List Nat} {gi : Fi} {b : Fg} {t : Ft} {elt : Fe} {ρ : En} {Q : RV → En → Prop} (k : ExI gi ρ fun ds ρ1 => LcQ own b t elt ρ1 ds fun es ρ2 => Q (.fr (.list es)) ρ2) : Ex (flc own gi b t elt) ρ Q := by
  obtain ⟨ds, ρ1, e1, hn, es, ρ2, e2, k⟩ := k
  exact ⟨_, _, flc_of e1 e2 hn, k⟩
def Nrm (P : Prop) : Prop := P
theorem nrm {P : Prop} (h : P) : Nrm P := h
def BackQ (own : List Nat) (ρ ρ3 : En) : Prop := backE ρ ρ3 own = ρ
theorem backQ {own : List Nat} {ρ ρ3 : En} (h : backE ρ ρ3 own = ρ) : BackQ own ρ ρ3 := h
def TstQ (u v : Bool) (A B : Prop) : Prop := u = v ∧ Two u A B
theorem tstQ {u v : Bool} {A B : Prop} (e : u = v) (k : Two u A B) : TstQ u v A B := ⟨e, k⟩
def EltQ (own : List Nat) (ρ ρ4 : En) (r : RV) (d : D) : Prop := ∃ ρ5, dat ρ4 r = some d ∧ rel ρ4 r = some ρ5 ∧ backE ρ ρ5 own = ρ
theorem eltQ {own : List Nat} {ρ ρ4 ρ5 : En} {r : RV} {d : D} (e1 : dat ρ4 r = some d) (e2 : rel ρ4 r = some ρ5) (e3 : backE ρ ρ5 own = ρ) : EltQ own ρ ρ4 r d := ⟨_, e1, e2, e3⟩
/-- the state alone; items, tests and elements as functions -/
theorem lcQ {α : Type} {l : List α} {enc g : α → D} {p : α → Bool} {own : List Nat} {b : Fg} {t : Ft} {elt : Fe} {ρ : En} {ds : List D} {K : List D → En → Prop}
    (hn : noOwn ρ own = true) (hd : ds = l.map enc) (hl : l.length ≤ 16777216)
    (h : ∀ x ∈ l, ExG b (enc x) (wipeE ρ own) fun ρ2 => ExT t ρ2 fun u ρ3 => TstQ u (p x) (Ex elt ρ3 fun r ρ4 => EltQ own ρ ρ4 r (g x)) (BackQ own ρ ρ3))
    (k : Nrm (K ((l.filter p).map g) ρ)) : LcQ own b t elt ρ ds K := by
  subst hd
  refine ⟨hn, _, _, ?_, k⟩
  suffices H : ∀ (l : List α) (acc : List D), (∀ x ∈ l, ExG b (enc x) (wipeE ρ own) fun ρ2 => ExT t ρ2 fun u ρ3 => TstQ u (p x) (Ex elt ρ3 fun r ρ4 => EltQ own ρ ρ4 r (g x)) (BackQ own ρ ρ3)) → acc.length + l.length ≤ 16777216 →
      lcD own b t elt (l.map enc) ρ acc = some (acc ++ (l.filter p).map g, ρ) by
    have := H l [] h (by simpa using hl)
    simpa using this
  intro l
  induction l with
  | nil => intro acc _ _; simp [lcD]
  | cons x l ih =>
    intro acc h hl
    have hl' : acc.length + (l.length + 1) ≤ 16777216 := hl
    obtain ⟨ρ2, e1, u, ρ3, e2, hu, two⟩ := h x List.mem_cons_self
    subst hu
    have ih' := fun acc => ih acc (fun y hy => h y (List.mem_cons_of_mem _ hy))
    cases hp : p x with
    | true =>
      obtain ⟨r, ρ4, e3, ρ5, e4, e5, e6⟩ := two.1 hp
      rw [hp] at e2
      simp only [List.map_cons, lcD, e1, Option.bind_some, e2, if_true, e3, e4, e5, show acc.length < 16777216 by omega, e6, ih' (acc ++ [g x]) (by simp; omega), List.filter_cons, hp, List.append_assoc, List.singleton_append]
    | false =>
      rw [hp] at e2
      simp only [List.map_cons, lcD, e1, Option.bind_some, e2, Bool.false_eq_true, if_false, show backE ρ ρ3 own = ρ from two.2 hp, ih' acc (by omega), List.filter_cons, hp]
/-- no test -/
theorem filt_true {α : Type} (l : List α) : l.filter (fun _ => true) = l := List.filter_eq_self.mpr fun _ _ => rfl
section
variable {ρ : En} {r : RV} {K : RV → Prop}
theorem sl_llo {s : List D} {m : Nat} (e : dat ρ r = some (.list s)) (k : K (.fr (.list (s.take m)))) : SlQ ρ r none (some (m : Int)) K := ⟨_, _, e, rfl, by rw [cutN_lo]; exact k⟩
theorem sl_lhi {s : List D} {m : Nat} (e : dat ρ r = some (.list s)) (k : K (.fr (.list (s.drop m)))) : SlQ ρ r (some (m : Int)) none K := ⟨_, _, e, rfl, by rw [cutN_hi]; exact k⟩
theorem op2_catLN {r2 : RV} {xs ys : List Nat} (e1 : dat ρ r = some (.list (Ns xs))) (e2 : dat ρ r2 = some (.list (Ns ys))) (hl : xs.length + ys.length ≤ 16777216) (k : K (.fr (.list (Ns (xs ++ ys))))) : Op2Q gAdd ρ r r2 K := op2_nl e1 e2 (gAdd_L (by simpa using hl)) (by rw [Ns_app]; exact k)
end
theorem map_Ns {α : Type} (l : List α) (f : α → Nat) : l.map (fun x => N (f x)) = Ns (l.map f) := by simp [Ns]
/-- a list of pairs -/
def Ps (l : List (Nat × Nat)) : List D := l.map fun p => pr p.1 p.2
@[simp] theorem Ps_len (l : List (Nat × Nat)) : (Ps l).length = l.length := by simp [Ps]
theorem map_Ps {α : Type} (l : List α) (f g : α → Nat) : l.map (fun x => PyData.tuple [N (f x), N (g x)]) = Ps (l.map fun x => (f x, g x)) := by simp [Ps, pr]
theorem map_Ps' {α : Type} (l : List α) (f g : α → Nat) : l.map (fun x => pr (f x) (g x)) = Ps (l.map fun x => (f x, g x)) := by simp [Ps, pr]
def RepQ (ρ : En) (r r2 : RV) (K : RV → Prop) : Prop := ∃ xs m, r = .fr (.list xs) ∧ dat ρ r2 = some (N m) ∧ (m ≤ 16777216 ∧ xs.length * m ≤ 16777216) ∧ K (.fr (.list (List.replicate m xs).flatten))
theorem ex_rep {f g : Fe} {ρ : En} {Q : RV → En → Prop} (k : Ex f ρ fun r ρ1 => Ex g ρ1 fun r2 ρ2 => RepQ ρ2 r r2 fun r => Q r ρ2) : Ex (frep f g) ρ Q := by
  obtain ⟨r, ρ1, e1, r2, ρ2, e2, xs, m, rfl, e3, h, k⟩ := k
  exact ⟨.fr (.list (List.replicate m xs).flatten), ρ2, frep_of e1 e2 e3 ⟨by omega, by omega, by simpa using h.2⟩, k⟩
def SubQ (j : Nat) (d : D) (ρ : En) (r : RV) (K : En → Prop) : Prop := ∃ (i : Int) (n : Nat) (es : List D) (fl : Fl), fl ≠ .sh ∧ dat ρ r = some (.int i) ∧ ρ[j]? = some (some (fl, .list es)) ∧ ixN es.length i = some n ∧ K (ρ.set j (some (fl, .list (es.set n d))))
theorem exg_subQ {f : Fe} {ρ : En} {d d0 : D} {j : Nat} {fl : Fl} {QG : En → Prop} (e0 : ρ[j]? = some (some (fl, d0))) (hfl : fl ≠ .sh) (k : Ex f ρ fun r ρ1 => SubQ j d ρ1 r QG) : ExG (bsub j f) d ρ QG := by
  obtain ⟨r, ρ1, e1, i, n, es, fl', hfl', e2, e3, e4, k⟩ := k
  refine ⟨_, ?_, k⟩
  have : bsub1 j f d ρ = some (ρ1.set j (some (fl', .list (es.set n d)))) := by
    unfold bsub1
    rw [e1, Option.bind_some, e2, Option.bind_some, e3]
    show (if fl' = .sh then none else (ixN es.length i).map fun n => ρ1.set j (some (fl', .list (es.set n d)))) = _
    rw [if_neg hfl', e4]; rfl
  unfold bsub
  rw [e0]
  cases fl with
  | sh => exact absurd rfl hfl
  | ow => exact this
  | bx => exact this
theorem subQ_N {ρ : En} {r : RV} {j i x : Nat} {es : List Nat} {fl : Fl} {K : En → Prop} (e1 : dat ρ r = some (N i)) (e2 : ρ[j]? = some (some (fl, .list (Ns es)))) (hfl : fl ≠ .sh) (hi : i < es.length) (k : K (ρ.set j (some (fl, .list (Ns (es.set i x)))))) : SubQ j (N x) ρ r K :=
  ⟨i, i, Ns es, fl, hfl, e1, e2, ixN_int rfl (by simpa using hi), by rw [Ns_set]; exact k⟩
def Sq (A : D) (s : List Nat) : Prop := A = .tuple (Ns s) ∨ A = .list (Ns s)
theorem Sq.t {s : List Nat} : Sq (.tuple (Ns s)) s := .inl rfl
theorem Sq.l {s : List Nat} : Sq (.list (Ns s)) s := .inr rfl
theorem Sq.ix {A : D} {s : List Nat} (h : Sq A s) {i : Nat} (hi : i < s.length) : gIx A (N i) = some (.it (N (gt s i))) := by
  rcases h with rfl | rfl
  · exact gIx_T hi
  · exact gIx_L hi
theorem Sq.len {A : D} {s : List Nat} (h : Sq A s) : gLen [A] = some (.it (N s.length)) := by
  rcases h with rfl | rfl
  · exact gLen_T
  · exact gLen_L
theorem Sq.lst {A : D} {s : List Nat} (h : Sq A s) : gList [A] = some (.nl (Ns s)) := by
  rcases h with rfl | rfl
  · exact gList_T
  · exact gList_L
theorem Sq.atom {A : D} {s : List Nat} (h : Sq A s) : DL.atom A = false := by
  rcases h with rfl | rfl <;> rfl
theorem opA_tupSq {ρ : En} {rs : List RV} {K : RV → Prop} {A : D} {s : List Nat} (e1 : datA ρ rs = some [A]) (h : Sq A s) (k : K (.sh (.tuple (Ns s)))) : OpAQ gTuple ρ rs K := by
  rcases h with rfl | rfl
  · exact opA_it e1 gTuple_T k
  · exact opA_nt e1 gTuple_L k
theorem lr1N {ρ : En} {r : RV} {n : Nat} {K : List D → Prop} (e : dat ρ r = some (N n)) (h : n ≤ 16777216) (k : K (Ns (List.range n))) : Lr1 ρ r K := lr1 e h k
theorem lr2N {ρ : En} {r r2 : RV} {a n : Nat} {K : List D → Prop} (e : dat ρ r = some (N a)) (e2 : dat ρ r2 = some (N n)) (h : a ≤ 16777216) (h2 : n ≤ 16777216) (k : K (Ns ((List.range (n - a)).map fun i => a + i))) : Lr2 ρ r r2 K := lr2 e e2 h h2 (by rw [map_Ns]; exact k)
theorem gIx_lastd {l : List D} {x : D} : gIx (.list (l ++ [x])) (.int (-((1 : Nat) : Int))) = some (.it x) := by
  show (atI (l ++ [x]) (-1)).map _ = _
  rw [atI_last]; rfl
theorem exg_pr {b1 b2 : Fg} {a b : Nat} {ρ : En} {QG : En → Prop} (k : ExG b1 (N a) ρ fun ρ1 => ExG b2 (N b) ρ1 QG) : ExG (btup 2 (bcons b1 (bcons b2 bnil))) (pr a b) ρ QG :=
  exg_tupT rfl (exgs_cons (k.imp fun ρ1 h => ⟨h.1, exgs_cons (h.2.imp fun ρ2 h => ⟨h.1, exgs_nil h.2⟩)⟩))
theorem eqvN : ∀ a b : List Nat, PyData.eqvAll (Ns a) (Ns b) = decide (a = b)
  | [], [] => by simp [Ns, PyData.eqvAll]
  | [], y :: b => by simp [Ns, PyData.eqvAll]
  | x :: a, [] => by simp [Ns, PyData.eqvAll]
  | x :: a, y :: b => by
    have := eqvN a b
    simp only [Ns] at this
    have hb : ((x : Int) == (y : Int)) = decide (x = y) := by
      rw [show ((x : Int) == (y : Int)) = decide ((x : Int) = (y : Int)) from rfl]; simp only [Int.natCast_inj]
    simp [Ns, PyData.eqvAll, PyData.eqv, this, hb]
theorem eqDD_T {a b : List Nat} : eqDD (.tuple (Ns a)) (.tuple (Ns b)) = some (decide (a = b)) := by
  have h : PyData.eqv (.tuple (Ns a)) (.tuple (Ns b)) = decide (a = b) := by simp [PyData.eqv, eqvN]
  show (if SeqAt.shaped (.tuple (Ns a)) && SeqAt.shaped (.tuple (Ns b)) then some (PyData.eqv (.tuple (Ns a)) (.tuple (Ns b))) else none) = _
  rw [ns_shT, ns_shT, h]; rfl
theorem gEq_T {a b : List Nat} : gEq (.tuple (Ns a)) (.tuple (Ns b)) = some (.it (.bool (decide (a = b)))) := by unfold gEq; rw [eqDD_T]; rfl
theorem frOf_f {d : D} {e : List D} : frOf ⟨false, d, e⟩ = .sh d := rfl
theorem frOf_t {d : D} {e : List D} : frOf ⟨true, d, e⟩ = .fr d := rfl
theorem gIsi_x {t : String} {d : D} (nx : isXD d = false) : gIsi t d = some (.it (.bool (isTy t (tyD d)))) := by unfold gIsi; rw [nx]; rfl
theorem gIsi2_x {t u : String} {d : D} (nx : isXD d = false) : gIsi2 t u d = some (.it (.bool (isTy t (tyD d) || isTy u (tyD d)))) := by unfold gIsi2; rw [nx]; rfl
theorem gIs_non {x : D} : gIs x .none = some (.it (.bool (isNone x))) := rfl
theorem gEq_str {x : Str} : gEq (.str x) (.str x) = some (.it (.bool (decide (x = x)))) := rfl
theorem gEq_non : gEq .none .none = some (.it (.bool true)) := rfl
end Sh
set_option Elab.async false
set_option linter.all false
set_option maxRecDepth 100000
set_option maxHeartbeats 4000000
namespace Sh
open PySem PySem.Spec PyProof.Rows L2 DL
end Sh
set_option Elab.async false
set_option linter.all false
set_option maxRecDepth 100000
set_option maxHeartbeats 4000000
namespace Sh
open PySem PySem.Spec PyProof.Rows L2 DL
section
variable {ρ : En} {f g : Fe} {fs : Fa} {c : Ft} {s body : Fst} {gi : Fi} {b : Fg} {d : D} {Q : RV → En → Prop} {Nx : En → Prop} {R : RV → En → Prop} {B C : En → Prop}
def ForQ (b : Fg) (body : Fst) (ds : List D) (ρ : En) (Nx : En → Prop) (R : RV → En → Prop) : Prop := St (forD b body ds) ρ Nx R (fun _ => False) fun _ => False
theorem st_for (k : ExI gi ρ fun ds ρ1 => ForQ b body ds ρ1 Nx R) : St (ffor gi b body) ρ Nx R B C := by
  obtain ⟨ds, ρ1, e1, o, e2, k⟩ := k
  refine ⟨o, ffor_of e1 e2, ?_⟩
  cases o with
  | nx => exact k
  | rt => exact k
  | bk => exact k.elim
  | ct => exact k.elim
/-- a loop over a list, by what is true behind each beginning of it -/
theorem forQ {α : Type} {l : List α} {enc : α → D} (I : List α → En → Prop) {ds : List D} (hd : ds = l.map enc) (h0 : I [] ρ)
    (st : ∀ pre x post ρ, l = pre ++ x :: post → I pre ρ → ExG b (enc x) ρ fun ρ2 => St body ρ2 (I (pre ++ [x])) R Nx (I (pre ++ [x])))
    (k : ∀ ρ, I l ρ → Nx ρ) : ForQ b body ds ρ Nx R := by
  subst hd
  suffices H : ∀ (post pre : List α) (ρ : En), l = pre ++ post → I pre ρ → ForQ b body (post.map enc) ρ Nx R from H l [] ρ rfl h0
  intro post
  induction post with
  | nil => intro pre ρ e h; exact ⟨.nx ρ, rfl, k ρ (by rw [e, List.append_nil]; exact h)⟩
  | cons x post ih =>
    intro pre ρ e h
    obtain ⟨ρ1, e1, o, e2, k2⟩ := st pre x post ρ e h
    cases o with
    | nx ρ2 =>
      obtain ⟨o, e3, k3⟩ := ih (pre ++ [x]) ρ2 (by simpa using e) k2
      exact ⟨o, by simp only [List.map_cons, forD, e1, Option.bind_some, e2, e3], k3⟩
    | ct ρ2 =>
      obtain ⟨o, e3, k3⟩ := ih (pre ++ [x]) ρ2 (by simpa using e) k2
      exact ⟨o, by simp only [List.map_cons, forD, e1, Option.bind_some, e2, e3], k3⟩
    | bk ρ2 => exact ⟨.nx ρ2, by simp only [List.map_cons, forD, e1, Option.bind_some, e2], k2⟩
    | rt r ρ2 => exact ⟨.rt r ρ2, by simp only [List.map_cons, forD, e1, Option.bind_some, e2], k2⟩
/-- a loop over the numbers below n -/
theorem forQ_rng {n : Nat} {enc : Nat → D} (I : Nat → En → Prop) {ds : List D} (hd : ds = (List.range n).map enc) (h0 : I 0 ρ)
    (st : ∀ j ρ, j < n → I j ρ → ExG b (enc j) ρ fun ρ2 => St body ρ2 (I (j + 1)) R Nx (I (j + 1)))
    (k : ∀ ρ, I n ρ → Nx ρ) : ForQ b body ds ρ Nx R := by
  refine forQ (fun pre ρ => I pre.length ρ) hd h0 (fun pre x post ρ e h => ?_) fun ρ h => k ρ (by simpa using h)
  have hj : pre.length < n := by
    have := congrArg List.length e
    simp at this; omega
  have hx : x = pre.length := by
    have := congrArg (fun l => l[pre.length]?) e
    simp [hj] at this
    exact this.symm
  subst hx
  have := st pre.length ρ hj h
  simpa using this
/-- a loop that keeps what is true -/
theorem forQ_keep (I : En → Prop) {ds : List D} (h0 : I ρ) (st : ∀ d ρ, d ∈ ds → I ρ → ExG b d ρ fun ρ2 => St body ρ2 I R Nx I) (k : ∀ ρ, I ρ → Nx ρ) : ForQ b body ds ρ Nx R := by
  refine forQ (l := ds) (enc := id) (fun _ ρ => I ρ) (by simp) h0 (fun pre x post ρ e h => st x ρ (by rw [e]; simp) h) k
def CallBQ (F : FS) (ρ : En) (rs : List RV) (K : RV → En → Prop) : Prop := ∃ ds r q, datA ρ rs = some ds ∧ F ds = some r ∧ fcallEnd (some 0) rs ρ r = some q ∧ K q.1 q.2
theorem ex_callB' {F : FS} (k : ExA fs ρ fun rs ρ1 => CallBQ F ρ1 rs Q) : Ex (fcall (some 0) F fs) ρ Q := ex_callB k
/-- the other arguments let go of nothing -/
theorem callB {F : FS} {j : Nat} {rs : List RV} {fl : Fl} {bx0 ds : List D} {K : RV → En → Prop} (e1 : datA ρ (.al j :: rs) = some ds) (e0 : ρ[j]? = some (some (fl, .list bx0))) (hf : fl ≠ .sh) (e2 : relA ρ rs = some ρ) (ha : hasAl j rs = false)
    (k : Cl F ds fun r => K (frOf r) (ρ.set j (some (fl, .list r.bx)))) : CallBQ F ρ (.al j :: rs) K := by
  obtain ⟨r, e3, k⟩ := k
  refine ⟨ds, r, (frOf r, ρ.set j (some (fl, .list r.bx))), e1, e3, ?_, k⟩
  have ha' : hasAl j ((RV.al j :: rs).set 0 (RV.sh .none)) = false := by
    show hasAl j (RV.sh .none :: rs) = false
    unfold hasAl at ha ⊢
    rw [List.any_cons, ha]; rfl
  have hl : (if lone (some 0) r then some ρ else relA ρ (setNo (some 0) (.al j :: rs))) = some ρ := by
    split
    · rfl
    · exact e2
  unfold fcallEnd
  rw [hl, Option.bind_some]
  show (if hasAl j ((RV.al j :: rs).set 0 (RV.sh .none)) then none else _) = _
  rw [ha', if_neg (by decide), e0]
  cases fl with
  | sh => exact absurd rfl hf
  | ow => rfl
  | bx => rfl
end
theorem take_w {m k s : Nat} {bx : List D} {Q : FR → Prop} (hb : BoxOk k bx) (hk : k < 2 ^ 40) (h1 : 1 ≤ s) (h2 : s ≤ 10 ^ 7) (q : ∀ (r : Nat) (bx' : List D), r < s → BoxOk (k + 1) bx' → Q ⟨false, N r, bx'⟩) : Cl (F_law_take (m + 1)) [.list bx, N s] Q := by
  obtain ⟨r, bx', e, hr, hb'⟩ := take_spec (m := m) (s := (s : Int)) hb hk (by omega) (by omega)
  exact ⟨_, e, q r bx' (by omega) hb'⟩
theorem of_w {k : Nat} {bx ds : List D} {Q : FR → Prop} (hb : BoxOk k bx) (hk : k + 2 < 2 ^ 40) (h1 : ds ≠ []) (h2 : ds.length ≤ 1000) (q : ∀ (d : D) (bx' : List D), d ∈ ds → BoxOk (k + 1) bx' → Q ⟨false, d, bx'⟩) : Cl F_law_of [.list bx, .list ds] Q := by
  obtain ⟨d, bx', e, hr, hb'⟩ := of_spec hb hk h1 h2
  exact ⟨_, e, q d bx' hr hb'⟩
theorem any_call_w {k n : Nat} {bx : List D} {Q : FR → Prop} (hb : BoxOk k bx) (hk : k + 2 < 2 ^ 40) (h2 : 2 ≤ n) (hn : n ≤ 1000) (q : ∀ (a b : Nat) (bx' : List D), a < b → b < n → BoxOk (k + 2) bx' → Q ⟨false, pr a b, bx'⟩) : Cl F_law_any_call [.list bx, N n] Q := by
  obtain ⟨a, b, bx', e, h3, h4, hb'⟩ := any_call_spec hb hk h2 hn
  exact ⟨_, e, q a b bx' h3 h4 hb'⟩
theorem some_calls_w {k n most : Nat} {bx : List D} {Q : FR → Prop} (hb : BoxOk k bx) (hk : k + 10000 < 2 ^ 40) (h2 : 2 ≤ n) (hn : n ≤ 1000) (hm : most ≤ 2000)
    (q : ∀ (ps : List (Nat × Nat)) (bx' : List D), (∀ p ∈ ps, p.1 < p.2 ∧ p.2 < n) → ps.length ≤ most → BoxOk (k + 10000) bx' → Q ⟨true, .list (Ps ps), bx'⟩) : Cl F_law_some_calls [.list bx, N n, N most] Q := by
  obtain ⟨ps, bx', e, h3, h4, hb'⟩ := some_calls_spec hb hk h2 hn hm
  exact ⟨_, e, q ps bx' h3 h4 hb'⟩
theorem random_w {k n : Nat} {bx : List D} {Q : FR → Prop} (hb : BoxOk k bx) (hk : k + 1000 < 2 ^ 40) (he : n % 2 = 0) (hn : n ≤ 1000) (q : ∀ (p : List Nat) (bx' : List D), Joined n p → BoxOk (k + 1000) bx' → Q ⟨false, .tuple (Ns p), bx'⟩) : Cl F_law_random [.list bx, N n] Q := by
  obtain ⟨p, bx', e, h3, hb'⟩ := random_spec hb hk he hn
  exact ⟨_, e, q p bx' h3 hb'⟩
theorem partOk_of {b : Nat} {R : FS} (h : ∀ (k : Nat) (bx : List D), BoxOk k bx → k + b < 2 ^ 40 → Cl R [.list bx] fun r => ∃ bx', r = ⟨false, .bool true, bx'⟩ ∧ BoxOk (k + b) bx') : PartOk b R := fun k bx hb hk => by
  obtain ⟨r, e, bx', rfl, hb'⟩ := h k bx hb hk
  exact ⟨bx', e, hb'⟩
end Sh
set_option Elab.async false
set_option linter.all false
set_option maxRecDepth 100000
set_option maxHeartbeats 4000000
namespace Sh
abbrev Pt := Nat × Nat
/-- the other end of a join -/
def al (L : List (List Nat)) (p : Pt) : Pt := (p.1, gt (L.getD p.1 []) p.2)
/-- the end that is tied to this one -/
def tie (n k : Nat) (p : Pt) : Option Pt := if p.2 < n then (if p.1 = 0 then none else some (p.1 - 1, n + p.2)) else if p.1 + 1 < k then some (p.1 + 1, p.2 - n) else none
def Vd (n k : Nat) (p : Pt) : Prop := p.1 < k ∧ p.2 < 2 * n
inductive Conn (n : Nat) (L : List (List Nat)) (s : Pt) : Pt → Prop
  | refl : Conn n L s s
  | join {p : Pt} : Conn n L s p → Conn n L s (al L p)
  | tie {p q : Pt} : Conn n L s p → tie n L.length p = some q → Conn n L s q
def AllJ (n : Nat) (L : List (List Nat)) : Prop := ∀ s ∈ L, Joined (2 * n) s
theorem AllJ.get {n : Nat} {L : List (List Nat)} (h : AllJ n L) {i : Nat} (hi : i < L.length) : Joined (2 * n) (L.getD i []) := by
  rw [List.getD_eq_getElem?_getD, List.getElem?_eq_getElem hi]
  exact h _ (List.getElem_mem hi)
theorem al_vd {n : Nat} {L : List (List Nat)} (h : AllJ n L) {p : Pt} (v : Vd n L.length p) : Vd n L.length (al L p) := ⟨v.1, (h.get v.1).lt v.2⟩
theorem al_al {n : Nat} {L : List (List Nat)} (h : AllJ n L) {p : Pt} (v : Vd n L.length p) : al L (al L p) = p := by
  have := (h.get v.1).gg v.2
  unfold al; simp only [this]
theorem tie_vd {n k : Nat} {p q : Pt} (v : Vd n k p) (e : tie n k p = some q) : Vd n k q ∧ tie n k q = some p := by
  obtain ⟨i, x⟩ := p
  obtain ⟨v1, v2⟩ := v
  simp only at v1 v2
  unfold tie at e ⊢
  simp only at e
  split at e
  · split at e
    · cases e
    · cases e
      refine ⟨⟨by simp only; omega, by simp only; omega⟩, ?_⟩
      simp only
      rw [if_neg (by omega), if_pos (by omega)]
      congr 2 <;> omega
  · split at e
    · cases e
      refine ⟨⟨by simp only; omega, by simp only; omega⟩, ?_⟩
      simp only
      rw [if_pos (by omega), if_neg (by omega)]
      congr 2 <;> omega
    · cases e
section
variable {n : Nat} {L : List (List Nat)}
theorem Conn.vd (h : AllJ n L) {s p : Pt} (v : Vd n L.length s) (c : Conn n L s p) : Vd n L.length p := by
  induction c with
  | refl => exact v
  | join _ ih => exact al_vd h ih
  | tie _ e ih => exact (tie_vd ih e).1
theorem Conn.trans {s p q : Pt} (a : Conn n L s p) (b : Conn n L p q) : Conn n L s q := by
  induction b with
  | refl => exact a
  | join _ ih => exact .join ih
  | tie _ e ih => exact .tie ih e
theorem Conn.symm (h : AllJ n L) {s p : Pt} (v : Vd n L.length s) (c : Conn n L s p) : Conn n L p s := by
  induction c with
  | refl => exact .refl
  | @join r c ih =>
    have vp := c.vd h v
    have : Conn n L (al L r) (al L (al L r)) := .join .refl
    rw [al_al h vp] at this
    exact this.trans ih
  | tie c e ih =>
    have vp := c.vd h v
    exact (Conn.tie .refl (tie_vd vp e).2).trans ih
/-- the walk from an outer end -/
def W (n : Nat) (L : List (List Nat)) (s : Pt) : Nat → Option Pt
  | 0 => some s
  | t + 1 => (W n L s t).bind fun p => tie n L.length (al L p)
theorem W_vd (h : AllJ n L) {s : Pt} (v : Vd n L.length s) : ∀ (t : Nat) (p : Pt), W n L s t = some p → Vd n L.length p
  | 0, p, e => by cases e; exact v
  | t + 1, p, e => by
    unfold W at e
    rw [Option.bind_eq_some_iff] at e
    obtain ⟨q, e1, e2⟩ := e
    exact (tie_vd (al_vd h (W_vd h v t q e1)) e2).1
theorem W_none {s : Pt} {t : Nat} (e : W n L s t = none) : ∀ d, W n L s (t + d) = none
  | 0 => e
  | d + 1 => by
    show (W n L s (t + d)).bind _ = none
    rw [W_none e d]; rfl
theorem Conn.walk (h : AllJ n L) {s : Pt} (v : Vd n L.length s) (ho : Sh.tie n L.length s = none) {q : Pt} (c : Conn n L s q) : ∃ t p, W n L s t = some p ∧ (q = p ∨ q = al L p) := by
  induction c with
  | refl => exact ⟨0, s, rfl, .inl rfl⟩
  | join c ih =>
    obtain ⟨t, p, e1, rfl | rfl⟩ := ih
    · exact ⟨t, _, e1, .inr rfl⟩
    · exact ⟨t, p, e1, .inl (al_al h (W_vd h v t p e1))⟩
  | tie c e ih =>
    obtain ⟨t, p, e1, rfl | rfl⟩ := ih
    · cases t with
      | zero => cases e1; rw [ho] at e; cases e
      | succ t =>
        unfold W at e1
        rw [Option.bind_eq_some_iff] at e1
        obtain ⟨r, e2, e3⟩ := e1
        have := (tie_vd (al_vd h (W_vd h v t r e2)) e3).2
        rw [e] at this
        cases this
        exact ⟨t, r, e2, .inr rfl⟩
    · exact ⟨t + 1, _, by unfold W; rw [e1, Option.bind_some]; exact e, .inl rfl⟩
/-- from an outer end one comes to one other outer end at most -/
theorem Conn.uniq (h : AllJ n L) {s p q : Pt} (v : Vd n L.length s) (ho : Sh.tie n L.length s = none) (cp : Conn n L s p) (cq : Conn n L s q) (hp : Sh.tie n L.length p = none) (hq : Sh.tie n L.length q = none) (np : p ≠ s) (nq : q ≠ s) : p = q := by
  have go : ∀ {p : Pt}, Conn n L s p → Sh.tie n L.length p = none → p ≠ s → ∃ t r, W n L s t = some r ∧ p = al L r ∧ W n L s (t + 1) = none := by
    intro p cp hp np
    obtain ⟨t, r, e1, rfl | rfl⟩ := cp.walk h v ho
    · cases t with
      | zero => cases e1; exact absurd rfl np
      | succ t =>
        unfold W at e1
        rw [Option.bind_eq_some_iff] at e1
        obtain ⟨r, e2, e3⟩ := e1
        have := (tie_vd (al_vd h (W_vd h v t r e2)) e3).2
        rw [hp] at this; cases this
    · exact ⟨t, r, e1, rfl, by unfold W; rw [e1, Option.bind_some]; exact hp⟩
  obtain ⟨t, r, e1, e2, e3⟩ := go cp hp np
  obtain ⟨t', r', e1', e2', e3'⟩ := go cq hq nq
  have : t = t' := by
    rcases Nat.lt_trichotomy t t' with z | z | z
    · have := W_none e3 (t' - (t + 1))
      rw [show t + 1 + (t' - (t + 1)) = t' by omega, e1'] at this; cases this
    · exact z
    · have := W_none e3' (t - (t' + 1))
      rw [show t' + 1 + (t - (t' + 1)) = t by omega, e1] at this; cases this
  subst this
  rw [e1] at e1'; cases e1'
  rw [e2, e2']
end
/-- the place of an outer end -/
def out (n k e : Nat) : Pt := if e < n then (0, e) else (k - 1, e)
theorem out_tie {n k e : Nat} (hk : 0 < k) : tie n k (out n k e) = none := by
  unfold out tie
  split
  · simp [*]
  · next h =>
    simp only [h, if_false]
    rw [if_neg (by omega)]
theorem out_vd {n k e : Nat} (hk : 0 < k) (he : e < 2 * n) : Vd n k (out n k e) := by
  unfold out Vd
  split
  · exact ⟨by simpa using hk, by simpa using he⟩
  · exact ⟨by simp only; omega, by simpa using he⟩
structure Comp (n : Nat) (L : List (List Nat)) (c : List Nat) : Prop where
  len : c.length = 2 * n
  ok : ∀ e, e < 2 * n → gt c e < 2 * n ∧ gt c e ≠ e ∧ Conn n L (out n L.length e) (out n L.length (gt c e))
section
variable {n : Nat} {L : List (List Nat)} {c c' : List Nat}
theorem gt_ext {m : Nat} {a b : List Nat} (ha : a.length = m) (hb : b.length = m) (h : ∀ e, e < m → gt a e = gt b e) : a = b := by
  apply List.ext_getElem?
  intro i
  by_cases hi : i < m
  · rw [gt_some (by omega), gt_some (by omega), h i hi]
  · rw [List.getElem?_eq_none (by omega), List.getElem?_eq_none (by omega)]
/-- connected ends stay connected when places are renamed -/
theorem Conn.map {L' : List (List Nat)} (f : Pt → Pt) (h : AllJ n L) (hj : ∀ p, Vd n L.length p → Conn n L' (f p) (f (al L p))) (ht : ∀ p q, Vd n L.length p → Sh.tie n L.length p = some q → Conn n L' (f p) (f q)) {s p : Pt} (v : Vd n L.length s) (c : Conn n L s p) : Conn n L' (f s) (f p) := by
  induction c with
  | refl => exact .refl
  | join c ih => exact ih.trans (hj _ (c.vd h v))
  | tie c e ih => exact ih.trans (ht _ _ (c.vd h v) e)
end
section
variable {n : Nat} {a b c ab bc x : List Nat} (Ja : Joined (2 * n) a) (Jb : Joined (2 * n) b) (Jc : Joined (2 * n) c)
theorem allJ2 (Ja : Joined (2 * n) a) (Jb : Joined (2 * n) b) : AllJ n [a, b] := fun s h => by
  simp at h
  rcases h with rfl | rfl
  · exact Ja
  · exact Jb
end
end Sh
set_option Elab.async false
set_option linter.all false
set_option maxRecDepth 100000
set_option maxHeartbeats 4000000
namespace Sh
theorem gt_mk {m e : Nat} {f : Nat → Nat} (h : e < m) : gt ((List.range m).map f) e = f e := by
  apply gt_of
  rw [List.getElem?_map, List.getElem?_range h]; rfl
/-- the other end of the same person -/
def fl (n e : Nat) : Nat := if e < n then e + n else e - n
theorem fl_lt {n e : Nat} (h : e < 2 * n) : fl n e < 2 * n := by unfold fl; split <;> omega
theorem fl_fl {n e : Nat} (h : e < 2 * n) : fl n (fl n e) = e := by unfold fl; split <;> split <;> omega
section
end
def idS (n : Nat) : List Nat := (List.range (2 * n)).map (fl n)
theorem idS_len (n : Nat) : (idS n).length = 2 * n := by simp [idS]
theorem idS_get {n e : Nat} (h : e < 2 * n) : gt (idS n) e = fl n e := gt_mk h
theorem idS_joined (n : Nat) : Joined (2 * n) (idS n) := Joined.mk' (idS_len n) fun e he => by
  rw [idS_get he, idS_get (fl_lt he), fl_fl he]
  refine ⟨fl_lt he, ?_, rfl⟩
  unfold fl; split <;> omega
section
variable {n : Nat} {a : List Nat} (J : Joined (2 * n) a)
include J
theorem conn2_join {b : List Nat} {i y : Nat} {L : List (List Nat)} (h : L.getD i [] = b) : Conn n L (i, y) (i, gt b y) := by
  have : al L (i, y) = (i, gt b y) := by unfold al; simp only [h]
  rw [← this]; exact .join .refl
end
def hat (n : Nat) (p : List Nat) : List Nat := (List.range (2 * n)).map fun e => if e < n then gt p e else n + gt p (e - n)
theorem hat_lo {n : Nat} {p : List Nat} {e : Nat} (h : e < n) : gt (hat n p) e = gt p e := by unfold hat; rw [gt_mk (by omega), if_pos h]
theorem hat_hi {n : Nat} {p : List Nat} {e : Nat} (h : e < n) : gt (hat n p) (n + e) = n + gt p e := by
  unfold hat; rw [gt_mk (by omega), if_neg (by omega), show n + e - n = e by omega]
theorem hat_joined {n : Nat} {p : List Nat} (J : Joined n p) : Joined (2 * n) (hat n p) := by
  refine Joined.mk' (by simp [hat]) fun e he => ?_
  by_cases q : e < n
  · rw [hat_lo q, hat_lo (J.lt q)]
    exact ⟨by have := J.lt q; omega, J.ne q, J.gg q⟩
  · obtain ⟨x, rfl⟩ : ∃ x, e = n + x := ⟨e - n, by omega⟩
    have hx : x < n := by omega
    rw [hat_hi hx, hat_hi (J.lt hx), J.gg hx]
    exact ⟨by have := J.lt hx; omega, by have := J.ne hx; omega, rfl⟩
/-- r is the result of s beside p -/
structure Res (n : Nat) (s p r : List Nat) : Prop where
  len : r.length = n
  ok : ∀ x, x < n → gt r x < n ∧ gt r x ≠ x ∧ Conn n [hat n p, s] (1, n + x) (1, n + gt r x)
section
variable {n : Nat} {s p r r' : List Nat} (J : Joined (2 * n) s) (Jp : Joined n p)
include J Jp
theorem Res.end (R : Res n s p r) {x y : Nat} (hx : x < n) (hy : y < n) (hne : y ≠ x) (hc : Conn n [hat n p, s] (1, n + x) (1, n + y)) : gt r x = y := by
  obtain ⟨h1, h2, h3⟩ := R.ok x hx
  have o : ∀ z, z < n → (1, n + z) = out n 2 (n + z) := fun z hz => by unfold out; rw [if_neg (by omega)]
  have := Conn.uniq (allJ2 (hat_joined Jp) J) (s := (1, n + x)) (by rw [o x hx]; exact out_vd (k := 2) (by omega) (by omega)) (by rw [o x hx]; exact out_tie (by simp)) h3 hc (by rw [o _ h1]; exact out_tie (by simp)) (by rw [o _ hy]; exact out_tie (by simp)) (fun q => h2 (by simpa using q)) (fun q => hne (by simpa using q))
  simpa using this
theorem Res.joined (R : Res n s p r) : Joined n r := by
  refine Joined.mk' R.len fun x hx => ?_
  obtain ⟨h1, h2, h3⟩ := R.ok x hx
  refine ⟨h1, h2, R.end J Jp h1 hx (Ne.symm h2) (h3.symm (allJ2 (hat_joined Jp) J) ?_)⟩
  exact ⟨by simp, by simp only; omega⟩
end
section
end
end Sh
set_option Elab.async false
set_option linter.all false
set_option maxRecDepth 100000
set_option maxHeartbeats 4000000
namespace Sh
open PySem PySem.Spec PyProof.Rows L2 DL
end Sh
set_option Elab.async false
set_option linter.all false
set_option maxRecDepth 100000
set_option maxHeartbeats 4000000
local macro_rules | `(tactic| infer_instance) => `(tactic| with_reducible exact rfl)
local macro_rules | `(tactic| infer_instance) => `(tactic| with_reducible exact ⟨rfl, rfl⟩)
local macro_rules | `(tactic| infer_instance) => `(tactic| with_reducible apply Sh.eqQ)
local macro_rules | `(tactic| infer_instance) => `(tactic| with_reducible apply Sh.samQ)
local macro_rules | `(tactic| infer_instance) => `(tactic| ((with_reducible apply Sh.impF); (intro h; (try simp only [decide_eq_true_eq, decide_eq_false_iff_not, Bool.not_eq_true', Bool.not_eq_false'] at h))))
local macro_rules | `(tactic| infer_instance) => `(tactic| ((with_reducible apply Sh.imp); (intro h; (try simp only [decide_eq_true_eq, decide_eq_false_iff_not, Bool.not_eq_true', Bool.not_eq_false'] at h))))
local macro_rules | `(tactic| infer_instance) => `(tactic| ((with_reducible apply Sh.lr2N); exact rfl; exact rfl; omega; omega))
local macro_rules | `(tactic| infer_instance) => `(tactic| ((with_reducible apply Sh.lr1N); exact rfl; omega))
local macro_rules | `(tactic| infer_instance) => `(tactic| ((with_reducible apply Sh.intQ); exact rfl))
local macro_rules | `(tactic| infer_instance) => `(tactic| with_reducible apply Sh.exo_some)
local macro_rules | `(tactic| infer_instance) => `(tactic| with_reducible apply Sh.exo_none)
local macro_rules | `(tactic| infer_instance) => `(tactic| ((with_reducible apply Sh.rg1); omega))
local macro_rules | `(tactic| infer_instance) => `(tactic| ((with_reducible apply Sh.sl_lhi); exact rfl))
local macro_rules | `(tactic| infer_instance) => `(tactic| ((with_reducible apply Sh.sl_llo); exact rfl))
local macro_rules | `(tactic| infer_instance) => `(tactic| ((with_reducible apply Sh.callB); exact rfl; exact rfl; decide; exact rfl; exact rfl))
local macro_rules | `(tactic| infer_instance) => `(tactic| ((with_reducible apply Sh.datQ); exact rfl))
local macro_rules | `(tactic| infer_instance) => `(tactic| ((with_reducible apply Sh.chQ); exact rfl; exact rfl; first | with_reducible exact Sh.gLt_N | with_reducible exact Sh.gLe_N | with_reducible exact Sh.gEq_N | with_reducible exact Sh.gNe_N))
local macro_rules | `(tactic| infer_instance) => `(tactic| ((with_reducible apply Sh.op1_it); exact rfl; first | with_reducible exact Sh.gNeg_N | ((with_reducible apply Sh.gIsi_x); first | exact rfl | with_reducible assumption) | ((with_reducible apply Sh.gIsi2_x); first | exact rfl | with_reducible assumption)))
local macro_rules | `(tactic| infer_instance) => `(tactic| ((with_reducible apply Sh.asgQ); exact rfl; exact rfl))
local macro_rules | `(tactic| infer_instance) => `(tactic| ((with_reducible apply Sh.subQ_N); exact rfl; exact rfl; decide; (first | omega | (simp only [List.length_set, List.length_append, List.length_map, List.length_range, List.length_replicate]; omega) | (simp; omega)); (try dsimp only [List.set_cons_zero, List.set_cons_succ, Sh.frOf_f, Sh.frOf_t, List.cons_append, List.nil_append])))
local macro_rules | `(tactic| infer_instance) => `(tactic| ((with_reducible apply Sh.methQ); exact rfl; exact rfl; exact rfl; decide; (first | ((with_reducible apply gAppend_N); (first | omega | (simp only [List.length_set, List.length_append, List.length_map, List.length_range, List.length_replicate, List.length_cons, List.length_nil, Sh.Ns_len, Sh.Ps_len]; omega) | (simp; omega))) | ((with_reducible apply Sh.gAppend_d); (first | omega | (simp only [List.length_set, List.length_append, List.length_map, List.length_range, List.length_replicate, List.length_cons, List.length_nil, Sh.Ns_len, Sh.Ps_len]; omega) | (simp; omega))) | with_reducible assumption); (try dsimp only [List.set_cons_zero, List.set_cons_succ, Sh.frOf_f, Sh.frOf_t, List.cons_append, List.nil_append])))
local macro_rules | `(tactic| infer_instance) => `(tactic| ((with_reducible apply Sh.cl_toF); (simp +decide only [DL.en0, DL.enA, List.length_cons, List.length_nil, List.cons_append, List.nil_append, List.replicate, ↓reduceIte, Nat.reduceAdd, Nat.reduceSub, Nat.zero_add] <;> exact rfl); exact rfl))
local macro_rules | `(tactic| infer_instance) => `(tactic| ((with_reducible apply Sh.backQ); exact rfl))
local macro_rules | `(tactic| infer_instance) => `(tactic| ((with_reducible apply Sh.nrm); (try simp only [Sh.filt_true, Sh.map_Ns, Sh.map_Ps, Sh.map_Ps', List.map_id_fun', List.map_id'])))
local macro_rules | `(tactic| infer_instance) => `(tactic| ((with_reducible apply Sh.lcQ); exact rfl; (first | exact enN _ | exact rfl); (first | omega | (simp; omega) | (simp; done)); (intro x hx; (try simp only [List.mem_range] at hx))))
local macro_rules | `(tactic| infer_instance) => `(tactic| with_reducible apply Sh.exi_rng1)
local macro_rules | `(tactic| infer_instance) => `(tactic| with_reducible apply Sh.exi_seq)
local macro_rules | `(tactic| infer_instance) => `(tactic| ((with_reducible apply Sh.retQ); exact rfl; exact rfl))
local macro_rules | `(tactic| infer_instance) => `(tactic| ((with_reducible apply Sh.sqQ_l); exact rfl; exact rfl; (try dsimp only [List.set_cons_zero, List.set_cons_succ, Sh.frOf_f, Sh.frOf_t, List.cons_append, List.nil_append])))
local macro_rules | `(tactic| infer_instance) => `(tactic| ((with_reducible apply Sh.sqQ_t); exact rfl; exact rfl; (try dsimp only [List.set_cons_zero, List.set_cons_succ, Sh.frOf_f, Sh.frOf_t, List.cons_append, List.nil_append])))
local macro_rules | `(tactic| infer_instance) => `(tactic| ((with_reducible apply Sh.tstQ); exact rfl))
local macro_rules | `(tactic| infer_instance) => `(tactic| exact Sh.eltQ rfl rfl rfl)
local macro_rules | `(tactic| infer_instance) => `(tactic| with_reducible apply Sh.exgs_cons)
local macro_rules | `(tactic| infer_instance) => `(tactic| ((with_reducible apply Sh.exgs_nil); try dsimp only [List.set_cons_zero, List.set_cons_succ, Sh.frOf_f, Sh.frOf_t, List.cons_append, List.nil_append]))
local macro_rules | `(tactic| infer_instance) => `(tactic| ((with_reducible apply Sh.exg_tupL); exact rfl))
local macro_rules | `(tactic| infer_instance) => `(tactic| ((with_reducible apply Sh.exg_tupT); exact rfl))
local macro_rules | `(tactic| infer_instance) => `(tactic| with_reducible apply Sh.exg_pr)
local macro_rules | `(tactic| infer_instance) => `(tactic| ((with_reducible apply Sh.exg_name); (try dsimp only [DL.wipeE, List.set_cons_zero, List.set_cons_succ, Sh.frOf_f, Sh.frOf_t, List.cons_append, List.nil_append])))
local macro_rules | `(tactic| infer_instance) => `(tactic| ((with_reducible apply Sh.exg_subQ); exact rfl; decide))
local macro_rules | `(tactic| infer_instance) => `(tactic| with_reducible apply Sh.ext_true)
local macro_rules | `(tactic| infer_instance) => `(tactic| with_reducible apply Sh.ext_or)
local macro_rules | `(tactic| infer_instance) => `(tactic| with_reducible apply Sh.ext_not)
local macro_rules | `(tactic| infer_instance) => `(tactic| with_reducible apply Sh.ext_bool)
local macro_rules | `(tactic| infer_instance) => `(tactic| ((with_reducible apply Sh.two_g) <;> (intro h; (try simp only [Bool.and_eq_true, Bool.or_eq_true, Bool.and_eq_false_iff, Bool.or_eq_false_iff, decide_eq_true_eq, decide_eq_false_iff_not, Bool.not_eq_true', Bool.not_eq_false'] at h))))
local macro_rules | `(tactic| infer_instance) => `(tactic| ((with_reducible apply Sh.two_n) <;> intro _))
local macro_rules | `(tactic| infer_instance) => `(tactic| ((with_reducible apply Sh.two_d) <;> intro _))
local macro_rules | `(tactic| infer_instance) => `(tactic| ((with_reducible apply Sh.two_f); (simp only [decide_eq_true_eq, decide_eq_false_iff_not, Bool.not_eq_true', Bool.not_eq_false', Bool.and_eq_true, Bool.or_eq_true, Bool.and_eq_false_iff, Bool.or_eq_false_iff, eq_self, and_self, not_true_eq_false, not_false_eq_true] <;> omega)))
local macro_rules | `(tactic| infer_instance) => `(tactic| ((with_reducible apply Sh.two_t); (simp only [decide_eq_true_eq, decide_eq_false_iff_not, Bool.not_eq_true', Bool.not_eq_false', Bool.and_eq_true, Bool.or_eq_true, Bool.and_eq_false_iff, Bool.or_eq_false_iff, eq_self, and_self, not_true_eq_false, not_false_eq_true] <;> omega)))
local macro_rules | `(tactic| infer_instance) => `(tactic| ((with_reducible apply Sh.two_f); exact rfl))
local macro_rules | `(tactic| infer_instance) => `(tactic| ((with_reducible apply Sh.two_t); exact rfl))
local macro_rules | `(tactic| infer_instance) => `(tactic| with_reducible apply Sh.boolQ)
local macro_rules | `(tactic| infer_instance) => `(tactic| ((with_reducible apply Sh.callQ_fr); exact rfl; (apply_assumption -symm -exfalso (transparency := .reducible) only [*] <;> first | with_reducible assumption | omega); exact rfl; (try dsimp only [List.set_cons_zero, List.set_cons_succ, Sh.frOf_f, Sh.frOf_t, List.cons_append, List.nil_append])))
local macro_rules | `(tactic| infer_instance) => `(tactic| ((with_reducible apply Sh.callQ_sh); exact rfl; (apply_assumption -symm -exfalso (transparency := .reducible) only [*] <;> first | with_reducible assumption | omega); exact rfl; (try dsimp only [List.set_cons_zero, List.set_cons_succ, Sh.frOf_f, Sh.frOf_t, List.cons_append, List.nil_append])))
local macro_rules | `(tactic| infer_instance) => `(tactic| ((with_reducible apply Sh.callQ_fr); exact rfl; with_reducible assumption; exact rfl; (try dsimp only [List.set_cons_zero, List.set_cons_succ, Sh.frOf_f, Sh.frOf_t, List.cons_append, List.nil_append])))
local macro_rules | `(tactic| infer_instance) => `(tactic| ((with_reducible apply Sh.callQ_sh); exact rfl; with_reducible assumption; exact rfl; (try dsimp only [List.set_cons_zero, List.set_cons_succ, Sh.frOf_f, Sh.frOf_t, List.cons_append, List.nil_append])))
local macro_rules | `(tactic| infer_instance) => `(tactic| with_reducible apply Sh.st_for)
local macro_rules | `(tactic| infer_instance) => `(tactic| with_reducible apply Sh.st_skip)
local macro_rules | `(tactic| infer_instance) => `(tactic| with_reducible apply Sh.st_drop)
local macro_rules | `(tactic| infer_instance) => `(tactic| with_reducible apply Sh.st_ret)
local macro_rules | `(tactic| infer_instance) => `(tactic| with_reducible apply Sh.st_if)
local macro_rules | `(tactic| infer_instance) => `(tactic| with_reducible apply Sh.st_asg)
local macro_rules | `(tactic| infer_instance) => `(tactic| with_reducible apply Sh.st_set)
local macro_rules | `(tactic| infer_instance) => `(tactic| with_reducible apply Sh.st_seq)
local macro_rules | `(tactic| infer_instance) => `(tactic| ((with_reducible apply Sh.seqQ); exact rfl; exact rfl; (try dsimp only [List.set_cons_zero, List.set_cons_succ, Sh.frOf_f, Sh.frOf_t, List.cons_append, List.nil_append])))
local macro_rules | `(tactic| infer_instance) => `(tactic| ((with_reducible apply Sh.setQ); exact rfl; exact rfl; exact rfl; (try dsimp only [List.set_cons_zero, List.set_cons_succ, Sh.frOf_f, Sh.frOf_t, List.cons_append, List.nil_append])))
local macro_rules | `(tactic| infer_instance) => `(tactic| ((with_reducible apply Sh.opA_nt); exact rfl; first | with_reducible exact Sh.gTuple_L))
local macro_rules | `(tactic| infer_instance) => `(tactic| ((with_reducible apply Sh.opA_nl); exact rfl; first | with_reducible exact Sh.gList_L | with_reducible exact Sh.gList_T))
local macro_rules | `(tactic| infer_instance) => `(tactic| ((with_reducible apply Sh.opA_tupSq); exact rfl; with_reducible assumption))
local macro_rules | `(tactic| infer_instance) => `(tactic| ((with_reducible apply Sh.opA_nl); exact rfl; exact Sh.Sq.lst (by with_reducible assumption)))
local macro_rules | `(tactic| infer_instance) => `(tactic| ((with_reducible apply Sh.opA_it); exact rfl; exact Sh.Sq.len (by with_reducible assumption)))
local macro_rules | `(tactic| sizeOf_list_dec) => `(tactic| with_reducible assumption)
local macro_rules | `(tactic| sizeOf_list_dec) => `(tactic| with_reducible exact Sh.gTuple_T)
local macro_rules | `(tactic| sizeOf_list_dec) => `(tactic| with_reducible exact Sh.gLen_t)
local macro_rules | `(tactic| sizeOf_list_dec) => `(tactic| with_reducible exact Sh.gLen_l)
local macro_rules | `(tactic| sizeOf_list_dec) => `(tactic| with_reducible exact Sh.gLen_L)
local macro_rules | `(tactic| sizeOf_list_dec) => `(tactic| with_reducible exact Sh.gLen_T)
local macro_rules | `(tactic| infer_instance) => `(tactic| ((with_reducible apply Sh.opA_it); exact rfl; sizeOf_list_dec))
local macro_rules | `(tactic| infer_instance) => `(tactic| ((with_reducible apply Sh.opA_it); exact rfl; with_reducible exact len_Td))
local macro_rules | `(tactic| infer_instance) => `(tactic| ((with_reducible apply Sh.op2_nl); exact rfl; exact rfl; (first | ((with_reducible apply Sh.gAdd_L) <;> (first | omega | (simp; done) | (simp; omega))) | with_reducible assumption); (try dsimp only [List.cons_append, List.nil_append])))
local macro_rules | `(tactic| infer_instance) => `(tactic| ((with_reducible apply Sh.op2_catLN); exact rfl; exact rfl; (simp; omega)))
local macro_rules | `(tactic| infer_instance) => `(tactic| ((with_reducible apply Sh.op2_it); exact rfl; exact rfl; (with_reducible apply gIx_Lz); first | with_reducible assumption | (simp; done) | (apply_assumption -symm -exfalso (transparency := .reducible) only [*] <;> first | with_reducible assumption | omega)))
local macro_rules | `(tactic| infer_instance) => `(tactic| ((with_reducible apply Sh.op2_it); exact rfl; exact rfl; with_reducible exact gIx_last2))
local macro_rules | `(tactic| infer_instance) => `(tactic| ((with_reducible apply Sh.op2_it); exact rfl; exact rfl; with_reducible exact Sh.gIx_lastd))
local macro_rules | `(tactic| infer_instance) => `(tactic| ((with_reducible apply Sh.op2_it); exact rfl; exact rfl; with_reducible exact gIx_last))
local macro_rules | `(tactic| infer_instance) => `(tactic| ((with_reducible apply Sh.op2_it); exact rfl; exact rfl; (refine Sh.Sq.ix (by with_reducible assumption) ?_); first | omega | with_reducible assumption))
local macro_rules | `(tactic| array_mem_dec) => `(tactic| with_reducible assumption)
local macro_rules | `(tactic| array_mem_dec) => `(tactic| with_reducible exact Sh.gNe_B)
local macro_rules | `(tactic| array_mem_dec) => `(tactic| with_reducible exact Sh.gEq_B)
local macro_rules | `(tactic| array_mem_dec) => `(tactic| with_reducible exact Sh.gEq_I)
local macro_rules | `(tactic| array_mem_dec) => `(tactic| with_reducible exact Sh.gSub_I)
local macro_rules | `(tactic| array_mem_dec) => `(tactic| with_reducible exact Sh.gEq_non)
local macro_rules | `(tactic| array_mem_dec) => `(tactic| with_reducible exact Sh.gEq_str)
local macro_rules | `(tactic| array_mem_dec) => `(tactic| with_reducible exact Sh.gIs_non)
local macro_rules | `(tactic| array_mem_dec) => `(tactic| with_reducible exact Sh.gEq_T)
local macro_rules | `(tactic| array_mem_dec) => `(tactic| with_reducible exact Sh.gIx_pr0)
local macro_rules | `(tactic| array_mem_dec) => `(tactic| ((with_reducible apply Sh.gIx_L); (apply_assumption -symm -exfalso (transparency := .reducible) only [*] <;> first | with_reducible assumption | omega)))
local macro_rules | `(tactic| array_mem_dec) => `(tactic| ((with_reducible apply Sh.gIx_T); (apply_assumption -symm -exfalso (transparency := .reducible) only [*] <;> first | with_reducible assumption | omega)))
local macro_rules | `(tactic| array_mem_dec) => `(tactic| ((with_reducible apply Sh.gIx_L) <;> omega))
local macro_rules | `(tactic| array_mem_dec) => `(tactic| ((with_reducible apply Sh.gIx_T) <;> omega))
local macro_rules | `(tactic| array_mem_dec) => `(tactic| with_reducible exact Sh.gNe_N)
local macro_rules | `(tactic| array_mem_dec) => `(tactic| with_reducible exact Sh.gEq_N)
local macro_rules | `(tactic| array_mem_dec) => `(tactic| with_reducible exact Sh.gLe_N)
local macro_rules | `(tactic| array_mem_dec) => `(tactic| with_reducible exact Sh.gLt_N)
local macro_rules | `(tactic| array_mem_dec) => `(tactic| ((with_reducible apply Sh.gMod_N) <;> omega))
local macro_rules | `(tactic| array_mem_dec) => `(tactic| ((with_reducible apply Sh.gFdiv_N) <;> omega))
local macro_rules | `(tactic| array_mem_dec) => `(tactic| ((with_reducible apply Sh.gMul_N) <;> omega))
local macro_rules | `(tactic| array_mem_dec) => `(tactic| ((with_reducible apply Sh.gSub_N); (apply_assumption -symm -exfalso (transparency := .reducible) only [*] <;> first | with_reducible assumption | omega)))
local macro_rules | `(tactic| array_mem_dec) => `(tactic| ((with_reducible apply Sh.gSub_N) <;> omega))
local macro_rules | `(tactic| array_mem_dec) => `(tactic| with_reducible exact Sh.gAdd_N)
local macro_rules | `(tactic| infer_instance) => `(tactic| ((with_reducible apply Sh.op2_it); exact rfl; exact rfl; array_mem_dec))
local macro_rules | `(tactic| infer_instance) => `(tactic| ((with_reducible apply Sh.op2_it); exact rfl; exact rfl; with_reducible exact nin_Td))
local macro_rules | `(tactic| infer_instance) => `(tactic| with_reducible apply Sh.exa_f1)
local macro_rules | `(tactic| infer_instance) => `(tactic| with_reducible apply Sh.exa_cons)
local macro_rules | `(tactic| infer_instance) => `(tactic| with_reducible apply Sh.exa_nil)
local macro_rules | `(tactic| array_get_dec) => `(tactic| with_reducible apply Sh.ex_callB')
local macro_rules | `(tactic| array_get_dec) => `(tactic| with_reducible apply Sh.ex_if)
local macro_rules | `(tactic| array_get_dec) => `(tactic| with_reducible apply Sh.ex_not)
local macro_rules | `(tactic| array_get_dec) => `(tactic| with_reducible apply Sh.ex_and)
local macro_rules | `(tactic| array_get_dec) => `(tactic| with_reducible apply Sh.ex_lrg2)
local macro_rules | `(tactic| array_get_dec) => `(tactic| with_reducible apply Sh.ex_lrg1)
local macro_rules | `(tactic| array_get_dec) => `(tactic| with_reducible apply Sh.ex_chain)
local macro_rules | `(tactic| array_get_dec) => `(tactic| with_reducible apply Sh.ex_slice)
local macro_rules | `(tactic| array_get_dec) => `(tactic| ((with_reducible apply Sh.ex_meth); exact rfl; decide))
local macro_rules | `(tactic| array_get_dec) => `(tactic| with_reducible apply Sh.ex_rep)
local macro_rules | `(tactic| array_get_dec) => `(tactic| with_reducible apply Sh.ex_lc)
local macro_rules | `(tactic| array_get_dec) => `(tactic| with_reducible apply Sh.ex_call)
local macro_rules | `(tactic| array_get_dec) => `(tactic| with_reducible apply Sh.ex_lst)
local macro_rules | `(tactic| array_get_dec) => `(tactic| with_reducible apply Sh.ex_tup)
local macro_rules | `(tactic| array_get_dec) => `(tactic| with_reducible apply Sh.ex_op1)
local macro_rules | `(tactic| array_get_dec) => `(tactic| with_reducible apply Sh.ex_opA)
local macro_rules | `(tactic| array_get_dec) => `(tactic| with_reducible apply Sh.ex_op2)
local macro_rules | `(tactic| array_get_dec) => `(tactic| with_reducible apply Sh.ex_fc)
local macro_rules | `(tactic| array_get_dec) => `(tactic| with_reducible apply Sh.ex_fc12)
local macro_rules | `(tactic| array_get_dec) => `(tactic| with_reducible apply Sh.ex_fc10)
local macro_rules | `(tactic| array_get_dec) => `(tactic| with_reducible apply Sh.ex_fc9)
local macro_rules | `(tactic| array_get_dec) => `(tactic| with_reducible apply Sh.ex_fc6)
local macro_rules | `(tactic| array_get_dec) => `(tactic| with_reducible apply Sh.ex_fc5)
local macro_rules | `(tactic| array_get_dec) => `(tactic| with_reducible apply Sh.ex_fc4)
local macro_rules | `(tactic| array_get_dec) => `(tactic| with_reducible apply Sh.ex_fc3)
local macro_rules | `(tactic| array_get_dec) => `(tactic| with_reducible apply Sh.ex_fc2)
local macro_rules | `(tactic| array_get_dec) => `(tactic| with_reducible apply Sh.ex_fc1)
local macro_rules | `(tactic| array_get_dec) => `(tactic| with_reducible apply Sh.ex_fc0)
local macro_rules | `(tactic| array_get_dec) => `(tactic| ((with_reducible apply Sh.ex_var_al); exact rfl; decide))
local macro_rules | `(tactic| array_get_dec) => `(tactic| ((with_reducible apply Sh.ex_var_sh); exact rfl))
local macro_rules | `(tactic| infer_instance) => `(tactic| ((with_reducible refine (?_ : Sh.Ex _ _ _)); array_get_dec))
namespace Sh
open PySem PySem.Spec PyProof.Rows L2 DL
theorem people_w {n : Nat} {A : D} {s : List Nat} (hA : Sq A s) (hl : s.length = 2 * n) : F_people_of [A] = some ⟨false, N n, []⟩ := by
  refine Cl.eq ?_
  unfold F_people_of
  repeat' (first | infer_instance | fail)
  rw [hl, show 2 * n / 2 = n by omega]
theorem empty_w {n : Nat} (hn : n ≤ 1000) : F_empty_sheet [N n] = some ⟨false, .tuple (Ns (idS n)), []⟩ := by
  refine Cl.eq ?_
  unfold F_empty_sheet
  repeat' (first | infer_instance | fail)
  rw [show (List.map (fun x => n + x) (List.range (2 * n - n)) ++ List.range n) = idS n from ?_]
  refine gt_ext (by simp; omega) (idS_len n) fun e he => ?_
  rw [idS_get he]
  apply gt_of
  unfold fl
  split
  · rw [List.getElem?_append_left (by simp; omega), List.getElem?_map, List.getElem?_range (by omega)]; simp; omega
  · rw [List.getElem?_append_right (by simp; omega), List.length_map, List.length_range, List.getElem?_range (by omega)]; congr 1; omega
section
end
end Sh
set_option Elab.async false
set_option linter.all false
set_option maxRecDepth 100000
set_option maxHeartbeats 4000000
namespace Sh
open PySem PySem.Spec PyProof.Rows L2 DL
section
end
end Sh
set_option Elab.async false
set_option linter.all false
set_option maxRecDepth 100000
set_option maxHeartbeats 4000000
namespace Sh
open PySem PySem.Spec PyProof.Rows L2 DL
def F_law_sheet_of : FS := toF 2 8 none (fseq (fset [2] (f1 (flc [7] (firng1 (fcons (fop2 gMul (fc (.int 2)) (fvar 0)) fnil)) (bname 7) ftrue (fop2 gMod (fop2 gAdd (fvar 7) (fvar 0)) (fop2 gMul (fc (.int 2)) (fvar 0))))))
    (fseq (ffor (fiseq (fvar 1)) (btup 2 (bcons (bname 3) (bcons (bname 4) bnil))) (fseq (fset [5, 6] (fcons (fop2 gIx (fvar 2) (fop2 gAdd (fvar 0) (fvar 3))) (fcons (fop2 gIx (fvar 2) (fop2 gAdd (fvar 0) (fvar 4))) fnil)))
    (fifS (fbool (fop2 gNe (fvar 5) (fop2 gAdd (fvar 0) (fvar 4)))) (fseq (fasg (btup 2 (bcons (bsub 2 (fvar 5)) (bcons (bsub 2 (fvar 6)) bnil))) (ftup (fcons (fvar 6) (fcons (fvar 5) fnil))))
    (fasg (btup 2 (bcons (bsub 2 (fop2 gAdd (fvar 0) (fvar 3))) (bcons (bsub 2 (fop2 gAdd (fvar 0) (fvar 4))) bnil))) (ftup (fcons (fop2 gAdd (fvar 0) (fvar 4)) (fcons (fop2 gAdd (fvar 0) (fvar 3)) fnil))))) fskip)))
    (fret (fopA gTuple (fcons (fvar 2) fnil)))))
/-- the sheet of a word -/
def shW (n : Nat) (ps : List (Nat × Nat)) : List Nat := ps.foldl (fun s p => addS n s p.1 p.2) (idS n)
def CallsOk (n : Nat) (ps : List (Nat × Nat)) : Prop := ∀ p ∈ ps, p.1 < p.2 ∧ p.2 < n
theorem CallsOk.app {n : Nat} {a b : List (Nat × Nat)} (h : CallsOk n (a ++ b)) : CallsOk n a ∧ CallsOk n b := ⟨fun p hp => h p (List.mem_append_left _ hp), fun p hp => h p (List.mem_append_right _ hp)⟩
theorem shF_joined {n : Nat} : ∀ {ps : List (Nat × Nat)} {s : List Nat}, Joined (2 * n) s → CallsOk n ps → Joined (2 * n) (ps.foldl (fun s p => addS n s p.1 p.2) s)
  | [], s, J, _ => J
  | p :: ps, s, J, h => shF_joined (s := addS n s p.1 p.2) (addS_joined J (h p (by simp)).1 (h p (by simp)).2) fun q hq => h q (by simp [hq])
theorem shW_joined {n : Nat} {ps : List (Nat × Nat)} (h : CallsOk n ps) : Joined (2 * n) (shW n ps) := shF_joined (idS_joined n) h
theorem shW_snoc {n : Nat} (ps : List (Nat × Nat)) (p : Nat × Nat) : shW n (ps ++ [p]) = addS n (shW n ps) p.1 p.2 := by simp [shW]
theorem law_sheet_of_spec {n : Nat} {ps : List (Nat × Nat)} (h : CallsOk n ps) (h0 : 0 < n) (hn : n ≤ 1000) : F_law_sheet_of [N n, .list (Ps ps)] = some ⟨false, .tuple (Ns (shW n ps)), []⟩ := by
  refine Cl.eq ?_
  unfold F_law_sheet_of
  repeat' (first | infer_instance | fail)
  have e0 : List.map (fun x => (x + n) % (2 * n)) (List.range (2 * n)) = idS n := by
    unfold idS
    apply List.map_congr_left
    intro x hx
    have := List.mem_range.mp hx
    unfold fl
    split
    · exact Nat.mod_eq_of_lt (by omega)
    · rw [Nat.mod_eq_sub_mod (by omega), Nat.mod_eq_of_lt (by omega)]; omega
  rw [e0]
  refine forQ (l := ps) (enc := fun p => pr p.1 p.2) (fun pre ρ => ∃ x3 x4 x5 x6, ρ = [sh (N n), sh (.list (Ps ps)), ow (.list (Ns (shW n pre))), x3, x4, x5, x6, none]) rfl ⟨_, _, _, _, rfl⟩ ?_ ?_
  · rintro pre ⟨a, b⟩ post ρ e ⟨x3, x4, x5, x6, rfl⟩
    have hp := CallsOk.app (e ▸ h)
    obtain ⟨hab, hb⟩ := hp.2 (a, b) (by simp)
    simp only at hab hb
    have J := shW_joined hp.1
    have hl := J.len
    have hx := J.lt (x := n + a) (by omega)
    have hy := J.lt (x := n + b) (by omega)
    rw [shW_snoc]
    unfold addS
    simp only
    repeat' (first | infer_instance | fail)
    · rw [if_neg (by assumption)]; exact ⟨_, _, _, _, rfl⟩
    · rw [if_pos (by assumption)]; exact ⟨_, _, _, _, rfl⟩
  · rintro ρ ⟨x3, x4, x5, x6, rfl⟩
    repeat' (first | infer_instance | fail)
end Sh
set_option Elab.async false
set_option linter.all false
set_option maxRecDepth 100000
set_option maxHeartbeats 4000000
namespace Sh
open PySem PySem.Spec PyProof.Rows L2 DL
def F_look_word : FS := toF 2 3 none (ffor (fiseq (fvar 1)) (bname 2) (fdrop (fcall none F_look_call (fcons (fvar 0) (fcons (fvar 2) fnil)))))
def F_sheet_of : FS := toF 2 4 none (fseq (fdrop (fcall none F_look_word (fcons (fvar 0) (fcons (fvar 1) fnil))))
    (fseq (fset [2] (f1 (fcall none F_empty_sheet (fcons (fvar 0) fnil))))
    (fseq (ffor (fiseq (fvar 1)) (bname 3) (fset [2] (f1 (fcall none F_added (fcons (fvar 2) (fcons (fvar 3) fnil))))))
    (fret (fvar 2)))))
def F_after_call : FS := toF 2 7 none (fseq (fasg (btup 2 (bcons (bname 2) (bcons (bname 3) bnil))) (fvar 1))
    (fseq (fset [4] (f1 (fopA gList (fcons (fvar 0) fnil))))
    (fseq (fifS (fbool (fop2 gNe (fop2 gIx (fvar 4) (fvar 2)) (fvar 3))) (fseq (fset [5, 6] (fcons (fop2 gIx (fvar 4) (fvar 2)) (fcons (fop2 gIx (fvar 4) (fvar 3)) fnil)))
    (fasg (btup 4 (bcons (bsub 4 (fvar 2)) (bcons (bsub 4 (fvar 3)) (bcons (bsub 4 (fvar 5)) (bcons (bsub 4 (fvar 6)) bnil))))) (ftup (fcons (fvar 3) (fcons (fvar 2) (fcons (fvar 6) (fcons (fvar 5) fnil))))))) fskip)
    (fret (fopA gTuple (fcons (fvar 4) fnil))))))
def F_pairings_along : FS := toF 2 4 none (fseq (fdrop (fcall none F_look_word (fcons (fopA gLen (fcons (fvar 0) fnil)) (fcons (fvar 1) fnil))))
    (fseq (fset [2] (f1 (flst (fcons (fopA gTuple (fcons (fvar 0) fnil)) fnil))))
    (fseq (ffor (fiseq (fvar 1)) (bname 3) (fdrop (fmeth 2 gAppend (fcons (fcall none F_after_call (fcons (fop2 gIx (fvar 2) (fop1 gNeg (fc (.int 1)))) (fcons (fvar 3) fnil))) fnil))))
    (fret (fvar 2)))))
def F_called_all : FS := toF 2 2 none (fret (fop2 gIx (fcall none F_pairings_along (fcons (fvar 0) (fcons (fvar 1) fnil))) (fop1 gNeg (fc (.int 1)))))
def callS (n a b : Nat) : List Nat := addS n (idS n) a b
section
variable {n a b : Nat} (hab : a < b) (hb : b < n)
include hab hb
theorem callS_get {e : Nat} (he : e < 2 * n) : gt (callS n a b) e = if e = n + b then n + a else if e = n + a then n + b else if e = b then a else if e = a then b else fl n e := by
  unfold callS
  rw [addS_get (idS_joined n) hab hb]
  have h1 : gt (idS n) (n + a) = a := by rw [idS_get (by omega)]; unfold fl; rw [if_neg (by omega)]; omega
  have h2 : gt (idS n) (n + b) = b := by rw [idS_get (by omega)]; unfold fl; rw [if_neg (by omega)]; omega
  rw [h1, h2, if_neg (by omega : ¬ a = n + b), idS_get he]
theorem callS_joined : Joined (2 * n) (callS n a b) := addS_joined (idS_joined n) hab hb
end
def stepP (p : List Nat) (a b : Nat) : List Nat := if gt p a = b then p else (((p.set a b).set b a).set (gt p a) (gt p b)).set (gt p b) (gt p a)
theorem stepP_get {n a b : Nat} {p : List Nat} (J : Joined n p) (hab : a < b) (hb : b < n) (x : Nat) : gt (stepP p a b) x = if gt p a = b then gt p x else if x = gt p b then gt p a else if x = gt p a then gt p b else if x = b then a else if x = a then b else gt p x := by
  have hl := J.len
  have h1 := J.lt (x := a) (by omega)
  have h2 := J.lt hb
  unfold stepP
  split
  · rfl
  · rw [gt_set _ (by simp; omega), gt_set _ (by simp; omega), gt_set _ (by simp; omega), gt_set _ (by omega)]
theorem stepP_len (p : List Nat) (a b : Nat) : (stepP p a b).length = p.length := by unfold stepP; split <;> simp
theorem res_callS {n a b : Nat} {p : List Nat} (J : Joined n p) (hab : a < b) (hb : b < n) : Res n (callS n a b) p (stepP p a b) := by
  have K := callS_joined hab hb
  have H := hat_joined J
  have A := allJ2 H K
  refine ⟨by rw [stepP_len, J.len], fun x hx => ?_⟩
  have c0 : ∀ y, y < n → Conn n [hat n p, callS n a b] (0, n + y) (0, n + gt p y) := fun y hy => by
    have := conn2_join (n := n) (L := [hat n p, callS n a b]) (b := hat n p) (i := 0) (y := n + y) H rfl
    rwa [hat_hi hy] at this
  have c1 : ∀ e, Conn n [hat n p, callS n a b] (1, e) (1, gt (callS n a b) e) := fun e => conn2_join (b := callS n a b) K rfl
  have tieD : ∀ y, y < n → Conn n [hat n p, callS n a b] (0, n + y) (1, y) := fun y hy => .tie .refl (by
    unfold tie; simp only [List.length_cons, List.length_nil]
    rw [if_neg (by omega), if_pos (by omega)]; simp)
  have v0 : ∀ e, e < 2 * n → Vd n [hat n p, callS n a b].length (0, e) := fun e he => ⟨by simp, he⟩
  have v1 : ∀ e, e < 2 * n → Vd n [hat n p, callS n a b].length (1, e) := fun e he => ⟨by simp, he⟩
  have str : ∀ y, y < n → y ≠ a → y ≠ b → Conn n [hat n p, callS n a b] (0, n + y) (1, n + y) := fun y hy h1 h2 => by
    have h4 := c1 y
    rw [callS_get hab hb (by omega), if_neg (by omega), if_neg (by omega), if_neg h2, if_neg h1] at h4
    unfold fl at h4
    rw [if_pos hy, Nat.add_comm y n] at h4
    exact (tieD y hy).trans h4
  have low : Conn n [hat n p, callS n a b] (1, n + a) (1, n + b) := by
    have := c1 (n + a)
    rwa [callS_get hab hb (by omega), if_neg (by omega), if_pos rfl] at this
  have mid : Conn n [hat n p, callS n a b] (0, n + a) (0, n + b) := by
    have h4 := c1 a
    rw [callS_get hab hb (by omega), if_neg (by omega), if_neg (by omega), if_neg (by omega), if_pos rfl] at h4
    exact ((tieD a (by omega)).trans h4).trans ((tieD b hb).symm A (v0 _ (by omega)))
  have h1 := J.lt (x := a) (by omega)
  have h2 := J.lt hb
  have g1 := J.gg (x := a) (by omega)
  have g2 := J.gg hb
  have n1 := J.ne (x := a) (by omega)
  have n2 := J.ne hb
  have gx := J.gg hx
  have hgx := J.lt hx
  have nx := J.ne hx
  rw [stepP_get J hab hb]
  by_cases q3 : gt p a = b
  · rw [if_pos q3]
    refine ⟨hgx, nx, ?_⟩
    by_cases e1 : x = a
    · subst e1; rw [q3]; exact low
    by_cases e2 : x = b
    · subst e2; rw [show gt p x = a by rw [← q3, g1]]; exact low.symm A (v1 _ (by omega))
    exact ((str x hx e1 e2).symm A (v0 _ (by omega))).trans ((c0 x hx).trans (str _ hgx (fun z => e2 (by rw [← gx, z, q3])) fun z => e1 (by rw [← gx, z, ← q3, g1])))
  rw [if_neg q3]
  have q3' : gt p b ≠ a := fun z => q3 (by rw [← z, g2])
  by_cases e1 : x = gt p b
  · rw [if_pos e1]
    subst e1
    refine ⟨h1, fun z => by have := J.inj (x := a) (y := b) (by omega) hb z; omega, ?_⟩
    have e := c0 _ h2
    rw [g2] at e
    exact ((str _ h2 q3' n2).symm A (v0 _ (by omega))).trans (e.trans ((mid.symm A (v0 _ (by omega))).trans ((c0 a (by omega)).trans (str _ h1 n1 q3))))
  rw [if_neg e1]
  by_cases e2 : x = gt p a
  · rw [if_pos e2]
    subst e2
    refine ⟨h2, fun z => by have := J.inj (x := a) (y := b) (by omega) hb z.symm; omega, ?_⟩
    have e := c0 _ h1
    rw [g1] at e
    exact ((str _ h1 n1 q3).symm A (v0 _ (by omega))).trans (e.trans (mid.trans ((c0 b hb).trans (str _ h2 q3' n2))))
  rw [if_neg e2]
  by_cases e3 : x = b
  · rw [if_pos e3]
    subst e3
    exact ⟨by omega, by omega, low.symm A (v1 _ (by omega))⟩
  rw [if_neg e3]
  by_cases e4 : x = a
  · rw [if_pos e4]
    subst e4
    exact ⟨hb, by omega, low⟩
  rw [if_neg e4]
  refine ⟨hgx, nx, ?_⟩
  exact ((str x hx e4 e3).symm A (v0 _ (by omega))).trans ((c0 x hx).trans (str _ hgx (fun z => e2 (by rw [← gx, z])) fun z => e1 (by rw [← gx, z])))
theorem stepP_joined {n a b : Nat} {p : List Nat} (J : Joined n p) (hab : a < b) (hb : b < n) : Joined n (stepP p a b) := (res_callS J hab hb).joined (callS_joined hab hb) J
def ledP (p : List Nat) (ps : List (Nat × Nat)) : List Nat := ps.foldl (fun p c => stepP p c.1 c.2) p
theorem ledP_snoc (p : List Nat) (ps : List (Nat × Nat)) (c : Nat × Nat) : ledP p (ps ++ [c]) = stepP (ledP p ps) c.1 c.2 := by simp [ledP]
theorem ledP_joined {n : Nat} : ∀ {ps : List (Nat × Nat)} {p : List Nat}, Joined n p → CallsOk n ps → Joined n (ledP p ps)
  | [], p, J, _ => J
  | c :: ps, p, J, h => ledP_joined (p := stepP p c.1 c.2) (stepP_joined J (h c (by simp)).1 (h c (by simp)).2) fun q hq => h q (by simp [hq])
end Sh
set_option Elab.async false
set_option linter.all false
set_option maxRecDepth 100000
set_option maxHeartbeats 4000000
namespace Sh
open PySem PySem.Spec PyProof.Rows L2 DL
/-- calls as pairs: tuples, or lists (of words) -/
def prK (k : Bool) (a b : Nat) : D := if k then .tuple [N a, N b] else .list [N a, N b]
/-- a word: a tuple or a list, of tuples or lists -/
def Wd (A : D) (ps : List (Nat × Nat)) : Prop := ∃ (k j : Bool), A = if k then .tuple (ps.map fun p => prK j p.1 p.2) else .list (ps.map fun p => prK j p.1 p.2)
theorem Wd.ps {ps : List (Nat × Nat)} : Wd (.list (Ps ps)) ps := ⟨false, true, rfl⟩
def Cx2 (A : D) (a b : Nat) : Prop := A = .tuple [N a, N b] ∨ A = .list [N a, N b]
theorem prK_cx {k : Bool} {a b : Nat} : Cx2 (prK k a b) a b := by cases k <;> simp [Cx2, prK]
theorem Cx2.pr {a b : Nat} : Cx2 (pr a b) a b := .inl rfl
theorem sqQ_Wd {ρ ρ2 : En} {r : RV} {A : D} {ps : List (Nat × Nat)} {K : List D → En → Prop} (h : Wd A ps) (e1 : dat ρ r = some A) (e2 : rel ρ r = some ρ2) (k : ∀ j, K (ps.map fun p => prK j p.1 p.2) ρ2) : SqQ ρ r K := by
  obtain ⟨k', j, rfl⟩ := h
  cases k' with
  | true => exact sqQ_t e1 e2 (k j)
  | false => exact sqQ_l e1 e2 (k j)
theorem look_person_w {n x : Nat} (h : x < n) : F_look_person [N n, N x] = some ⟨false, .none, []⟩ := look_person_spec h
theorem look_call_w {n a b : Nat} {C : D} (hC : Cx2 C a b) (ha : a < n) (hb : b < n) : F_look_call [N n, C] = some ⟨false, .none, []⟩ := by
  have h1 := look_person_w ha
  have h2 := look_person_w hb
  refine Cl.eq ?_
  unfold F_look_call
  have go : ∀ ρ, ρ = [sh (N n), sh C, none] → ForQ (bname 2) (fdrop (fcall none F_look_person (fcons (fvar 0) (fcons (fvar 2) fnil)))) [N a, N b] ρ (fun ρ => RetQ none ρ (.sh .none) fun r => r = ⟨false, .none, []⟩) (fun r ρ => RetQ none ρ r fun r => r = ⟨false, .none, []⟩) := by
    rintro ρ rfl
    refine forQ_keep (fun ρ => ∃ x, ρ = [sh (N n), sh C, x]) ⟨_, rfl⟩ ?_ ?_
    · rintro d ρ hd ⟨x, rfl⟩
      have : d = N a ∨ d = N b := by simpa using hd
      rcases this with rfl | rfl
      · repeat' (first | infer_instance | fail)
        exact ⟨_, rfl⟩
      · repeat' (first | infer_instance | fail)
        exact ⟨_, rfl⟩
    · rintro ρ ⟨x, rfl⟩
      repeat' (first | infer_instance | fail)
  rcases hC with rfl | rfl
  · repeat' (first | infer_instance | fail)
    exact go _ rfl
  · repeat' (first | infer_instance | fail)
    exact go _ rfl
theorem look_word_w {n : Nat} {A : D} {ps : List (Nat × Nat)} (hA : Wd A ps) (h : CallsOk n ps) : F_look_word [N n, A] = some ⟨false, .none, []⟩ := by
  refine Cl.eq ?_
  unfold F_look_word
  repeat' (first | infer_instance | fail)
  refine sqQ_Wd hA rfl rfl fun j => ?_
  refine forQ (l := ps) (enc := fun p => prK j p.1 p.2) (fun pre ρ => ∃ x, ρ = [sh (N n), sh A, x]) rfl ⟨_, rfl⟩ ?_ ?_
  · rintro pre ⟨a, b⟩ post ρ e ⟨x, rfl⟩
    have hp := h (a, b) (by rw [e]; simp)
    have c1 := look_call_w (n := n) (prK_cx (k := j) (a := a) (b := b)) (by simp at hp; omega) hp.2
    repeat' (first | infer_instance | fail)
    exact ⟨_, rfl⟩
  · rintro ρ ⟨x, rfl⟩
    repeat' (first | infer_instance | fail)
theorem with_joins_w {A : D} {s : List Nat} (hA : Sq A s) {p q u v : Nat} (hp : p < s.length) (hq : q < s.length) (hu : u < s.length) (hv : v < s.length) :
    F_with_joins [A, .list [pr p q, pr u v]] = some ⟨false, .tuple (Ns ((((s.set p q).set q p).set u v).set v u)), []⟩ := by
  refine Cl.eq ?_
  unfold F_with_joins
  repeat' (first | infer_instance | fail)
  refine forQ (l := [(p, q), (u, v)]) (enc := fun p => pr p.1 p.2) (fun pre ρ => ∃ x y, ρ = [sh A, sh (.list [pr p q, pr u v]), ow (.list (Ns (pre.foldl (fun f c => (f.set c.1 c.2).set c.2 c.1) s))), x, y]) rfl ⟨_, _, rfl⟩ ?_ ?_
  · rintro pre ⟨a, b⟩ post ρ e ⟨x, y, rfl⟩
    have hl : (pre.foldl (fun f c => (f.set c.1 c.2).set c.2 c.1) s).length = s.length := by
      have : ∀ (l : List (Nat × Nat)) (f : List Nat), (l.foldl (fun f c => (f.set c.1 c.2).set c.2 c.1) f).length = f.length := fun l => by
        induction l with
        | nil => intro f; rfl
        | cons x l ih => intro f; rw [List.foldl_cons, ih]; simp
      exact this pre s
    have hm : (a, b) ∈ [(p, q), (u, v)] := by rw [e]; simp
    have : a < s.length ∧ b < s.length := by
      simp at hm
      rcases hm with ⟨rfl, rfl⟩ | ⟨rfl, rfl⟩
      · exact ⟨hp, hq⟩
      · exact ⟨hu, hv⟩
    obtain ⟨ha, hb⟩ := this
    repeat' (first | infer_instance | fail)
    exact ⟨sh (N a), sh (N b), by simp⟩
  · rintro ρ ⟨x, y, rfl⟩
    repeat' (first | infer_instance | fail)
    rfl
theorem added_w {n a b : Nat} {A C : D} {s : List Nat} (hA : Sq A s) (hC : Cx2 C a b) (J : Joined (2 * n) s) (hn : n ≤ 1000) (hab : a < b) (hb : b < n) : F_added [A, C] = some ⟨false, .tuple (Ns (addS n s a b)), []⟩ := by
  have hl := J.len
  have c1 := people_w hA hl
  have hx := J.lt (x := n + a) (by omega)
  have hy := J.lt (x := n + b) (by omega)
  have c2 := with_joins_w hA (p := gt s (n + a)) (q := gt s (n + b)) (u := n + a) (v := n + b) (by omega) (by omega) (by omega) (by omega)
  have i0 : gIx C (N 0) = some (.it (N a)) := by rcases hC with rfl | rfl <;> rfl
  have i1 : gIx C (N 1) = some (.it (N b)) := by rcases hC with rfl | rfl <;> rfl
  refine Cl.eq ?_
  unfold F_added
  repeat' (first | infer_instance | fail)
  · show _ = FR.mk false (.tuple (Ns (addS n s a b))) []
    unfold addS
    rw [if_pos (by assumption)]
  · refine callQ_sh rfl c2 rfl ?_
    repeat' (first | infer_instance | fail)
    unfold addS
    rw [if_neg (by assumption)]
theorem with_call_w {n a b : Nat} {A C : D} {s : List Nat} (hA : Sq A s) (hC : Cx2 C a b) (J : Joined (2 * n) s) (hn : n ≤ 1000) (hab : a < b) (hb : b < n) : F_with_call [A, C] = some ⟨false, .tuple (Ns (addS n s a b)), []⟩ := by
  have c1 := people_w hA J.len
  have c2 := look_call_w (n := n) hC (by omega) hb
  have c3 := added_w hA hC J hn hab hb
  refine Cl.eq ?_
  unfold F_with_call
  repeat' (first | infer_instance | fail)
theorem sheet_of_w {n : Nat} {A : D} {ps : List (Nat × Nat)} (hA : Wd A ps) (h : CallsOk n ps) (hn : n ≤ 1000) : F_sheet_of [N n, A] = some ⟨false, .tuple (Ns (shW n ps)), []⟩ := by
  have c1 := look_word_w hA h
  have c2 := empty_w hn
  refine Cl.eq ?_
  unfold F_sheet_of
  repeat' (first | infer_instance | fail)
  refine sqQ_Wd hA rfl rfl fun j => ?_
  refine forQ (l := ps) (enc := fun p => prK j p.1 p.2) (fun pre ρ => ∃ x, ρ = [sh (N n), sh A, sh (.tuple (Ns (shW n pre))), x]) rfl ⟨_, rfl⟩ ?_ ?_
  · rintro pre ⟨a, b⟩ post ρ e ⟨x, rfl⟩
    have hp := CallsOk.app (e ▸ h)
    obtain ⟨hab, hb⟩ := hp.2 (a, b) (by simp)
    have c3 := added_w .t (prK_cx (k := j)) (shW_joined hp.1) hn hab hb
    rw [shW_snoc]
    repeat' (first | infer_instance | fail)
    exact ⟨_, rfl⟩
  · rintro ρ ⟨x, rfl⟩
    repeat' (first | infer_instance | fail)
theorem after_call_w {n a b : Nat} {A C : D} {p : List Nat} (hA : Sq A p) (hC : Cx2 C a b) (J : Joined n p) (hab : a < b) (hb : b < n) : F_after_call [A, C] = some ⟨false, .tuple (Ns (stepP p a b)), []⟩ := by
  have hl := J.len
  have h1 := J.lt (x := a) (by omega)
  have h2 := J.lt hb
  refine Cl.eq ?_
  unfold F_after_call stepP
  rcases hC with rfl | rfl
  · repeat' (first | infer_instance | fail)
    · rw [if_neg (by assumption)]
    · rw [if_pos (by assumption)]
  · repeat' (first | infer_instance | fail)
    · rw [if_neg (by assumption)]
    · rw [if_pos (by assumption)]
def Ts (l : List (List Nat)) : List D := l.map fun q => PyData.tuple (Ns q)
@[simp] theorem Ts_len (l : List (List Nat)) : (Ts l).length = l.length := by simp [Ts]
def alongP (p : List Nat) (ps : List (Nat × Nat)) : List (List Nat) := (List.range (ps.length + 1)).map fun i => ledP p (ps.take i)
theorem alongP_snoc (p : List Nat) (ps : List (Nat × Nat)) (c : Nat × Nat) : alongP p (ps ++ [c]) = alongP p ps ++ [ledP p (ps ++ [c])] := by
  unfold alongP
  rw [List.length_append, List.length_singleton, List.range_succ, List.map_append]
  congr 1
  · apply List.map_congr_left
    intro i hi
    have := List.mem_range.mp hi
    rw [List.take_append_of_le_length (by omega)]
  · rw [List.map_singleton, List.take_of_length_le (by simp)]
theorem alongP_last (p : List Nat) (ps : List (Nat × Nat)) : ∃ l, alongP p ps = l ++ [ledP p ps] := by
  refine ⟨(List.range ps.length).map fun i => ledP p (ps.take i), ?_⟩
  unfold alongP
  rw [List.range_succ, List.map_append]
  simp
theorem along_w {n : Nat} {A B : D} {p : List Nat} {ps : List (Nat × Nat)} (hA : Sq A p) (hB : Wd B ps) (J : Joined n p) (h : CallsOk n ps) (hlen : ps.length ≤ 100000) : F_pairings_along [A, B] = some ⟨true, .list (Ts (alongP p ps)), []⟩ := by
  have hl := J.len
  have c1 := look_word_w hB h
  subst hl
  refine Cl.eq ?_
  unfold F_pairings_along
  repeat' (first | infer_instance | fail)
  refine sqQ_Wd hB rfl rfl fun j => ?_
  refine forQ (l := ps) (enc := fun p => prK j p.1 p.2) (fun pre ρ => ∃ x, ρ = [sh A, sh B, ow (.list (Ts (alongP p pre))), x]) rfl ⟨_, rfl⟩ ?_ ?_
  · rintro pre ⟨a, b⟩ post ρ e ⟨x, rfl⟩
    have hp := CallsOk.app (e ▸ h)
    obtain ⟨hab, hb⟩ := hp.2 (a, b) (by simp)
    have hle : pre.length ≤ ps.length := by rw [e]; simp
    obtain ⟨l, el⟩ := alongP_last p pre
    have hll : l.length ≤ pre.length := by
      have := congrArg List.length el
      simp [alongP] at this; omega
    have c3 := after_call_w .t (prK_cx (k := j)) (ledP_joined J hp.1) hab hb
    rw [alongP_snoc, el, show Ts (l ++ [ledP p pre]) = Ts l ++ [.tuple (Ns (ledP p pre))] by simp [Ts]]
    repeat' (first | infer_instance | fail)
    refine ⟨some (.sh, prK j a b), ?_⟩
    simp [Ts, ledP_snoc]
  · rintro ρ ⟨x, rfl⟩
    repeat' (first | infer_instance | fail)
theorem called_all_w {n : Nat} {A B : D} {p : List Nat} {ps : List (Nat × Nat)} (hA : Sq A p) (hB : Wd B ps) (J : Joined n p) (h : CallsOk n ps) (hlen : ps.length ≤ 100000) : F_called_all [A, B] = some ⟨false, .tuple (Ns (ledP p ps)), []⟩ := by
  have c1 := along_w hA hB J h hlen
  obtain ⟨l, el⟩ := alongP_last p ps
  rw [el, show Ts (l ++ [ledP p ps]) = Ts l ++ [.tuple (Ns (ledP p ps))] by simp [Ts]] at c1
  refine Cl.eq ?_
  unfold F_called_all
  repeat' (first | infer_instance | fail)
end Sh
set_option Elab.async false
set_option linter.all false
set_option maxRecDepth 100000
set_option maxHeartbeats 4000000
namespace Sh
open PySem PySem.Spec PyProof.Rows L2 DL
def F_law_same : Nat → FS
  | 0 => fun _ => none
  | m + 1 => toF 2 4 none (fseq (fifS (fbool (fop1 (gIsi2 "list" "tuple") (fvar 1))) (fseq (fifS (forT (fbool (fop2 gNe (fop1 (gIsi "list") (fvar 0)) (fop1 (gIsi "list") (fvar 1)))) (fbool (fop2 gNe (fop1 (gIsi "tuple") (fvar 0)) (fop1 (gIsi "tuple") (fvar 1))))) (fret (fc (.bool false))) fskip)
    (fret (fand (fop2 gEq (fopA gLen (fcons (fvar 0) fnil)) (fopA gLen (fcons (fvar 1) fnil))) (fopA gAll (fcons (flc [2, 3] (fizip (fcons (fvar 0) (fcons (fvar 1) fnil))) (btup 2 (bcons (bname 2) (bcons (bname 3) bnil))) ftrue (fcall none (F_law_same m) (fcons (fvar 2) (fcons (fvar 3) fnil)))) fnil))))) fskip)
    (fseq (fifS (forT (fbool (fop2 gIs (fvar 1) (fc .none))) (fbool (fop1 (gIsi2 "str" "bool") (fvar 1)))) (fret (fand (fop2 gEq (fvar 0) (fvar 1)) (fand (fop2 gEq (fop1 (gIsi "bool") (fvar 0)) (fop1 (gIsi "bool") (fvar 1))) (fop2 gEq (fop2 gIs (fvar 0) (fc .none)) (fop2 gIs (fvar 1) (fc .none)))))) fskip)
    (fret (fand (fop1 (gIsi "int") (fvar 0)) (fand (fnot (fop1 (gIsi "bool") (fvar 0))) (fop2 gEq (fvar 0) (fvar 1)))))))
/-- data that is nested less than so deep -/
inductive Good : Nat → D → Prop
  | int {m : Nat} (i : Int) : Good (m + 1) (.int i)
  | bool {m : Nat} (b : Bool) : Good (m + 1) (.bool b)
  | none {m : Nat} : Good (m + 1) .none
  | str {m : Nat} (x : Str) : Good (m + 1) (.str x)
  | list {m : Nat} {ds : List D} : (∀ d ∈ ds, Good m d) → ds.length ≤ 16777216 → Good (m + 1) (.list ds)
  | tuple {m : Nat} {ds : List D} : (∀ d ∈ ds, Good m d) → ds.length ≤ 16777216 → Good (m + 1) (.tuple ds)
theorem zipD_self : ∀ ds : List D, zipD ds ds = ds.map fun d => .tuple [d, d]
  | [] => rfl
  | d :: ds => by show _ :: zipD ds ds = _; rw [zipD_self ds]; rfl
theorem boolsOf_true {ds : List D} : ∀ (l : List D), boolsOf (l.map fun _ => PyData.bool true) = some (l.map fun _ => true)
  | [] => rfl
  | d :: l => by show (boolsOf (l.map _)).map _ = _; rw [boolsOf_true (ds := ds) l]; rfl
theorem gAll_true (l : List D) : gAll [.list (l.map fun _ => PyData.bool true)] = some (.it (.bool true)) := by
  show (boolsOf _).map _ = _
  rw [boolsOf_true (ds := l)]
  simp
theorem same_zip {m : Nat} {ds : List D} (ih : ∀ d, Good m d → F_law_same m [d, d] = some ⟨false, .bool true, []⟩) (h : ∀ d ∈ ds, Good m d) (hl : ds.length ≤ 16777216) {D0 : D} (hD : D0 = .list ds ∨ D0 = .tuple ds) {K : List D → En → Prop}
    (k : K (ds.map fun _ => .bool true) [sh D0, sh D0, none, none]) :
    ExI (fizip (fcons (fvar 0) (fcons (fvar 1) fnil))) [sh D0, sh D0, none, none] fun ds ρ1 => LcQ [2, 3] (btup 2 (bcons (bname 2) (bcons (bname 3) bnil))) ftrue (fcall none (F_law_same m) (fcons (fvar 2) (fcons (fvar 3) fnil))) ρ1 ds K := by
  refine exi_zip (exa_cons (ex_var_sh rfl (exa_cons (ex_var_sh rfl (exa_nil (seqQ rfl rfl ⟨ds, ds, ?_, ?_⟩))))))
  · rcases hD with rfl | rfl
    · exact .inl rfl
    · exact .inr rfl
  · refine lcQ (l := ds) (enc := fun d => .tuple [d, d]) (p := fun _ => true) (g := fun _ => .bool true) rfl (zipD_self ds) hl (fun d hd => ?_) ?_
    · have := ih d (h d hd)
      repeat' (first | infer_instance | fail)
      refine callQ_sh rfl this rfl ?_
      repeat' (first | infer_instance | fail)
    · rw [filt_true]
      exact k
theorem same_ok : ∀ (m : Nat) (d : D), Good m d → F_law_same m [d, d] = some ⟨false, .bool true, []⟩
  | 0, d, h => by cases h
  | m + 1, d, h => by
    have ih := same_ok m
    refine Cl.eq ?_
    unfold F_law_same
    infer_instance
    cases h with
    | int i =>
      repeat' (first | infer_instance | fail)
      simp [isTy, tyD]
    | bool b =>
      repeat' (first | infer_instance | fail)
      simp
    | none =>
      repeat' (first | infer_instance | fail)
      simp
    | str x =>
      repeat' (first | infer_instance | fail)
      simp
    | list h1 h2 =>
      repeat' (first | infer_instance | fail)
      · exact same_zip ih h1 h2 (.inl rfl) (exa_nil (opA_it rfl (gAll_true _) (boolQ ⟨rfl, rfl⟩)))
      · simp
    | tuple h1 h2 =>
      repeat' (first | infer_instance | fail)
      · exact same_zip ih h1 h2 (.inr rfl) (exa_nil (opA_it rfl (gAll_true _) (boolQ ⟨rfl, rfl⟩)))
      · simp
end Sh
set_option Elab.async false
set_option linter.all false
set_option maxRecDepth 100000
set_option maxHeartbeats 4000000
namespace Sh
open PySem PySem.Spec PyProof.Rows L2 DL
section
end
end Sh
set_option Elab.async false
set_option linter.all false
set_option maxRecDepth 100000
set_option maxHeartbeats 4000000
namespace Sh
open PySem PySem.Spec PyProof.Rows L2 DL
section
end
structure Rp (m w : Nat) (d : D) : Prop where
  lay : d.canLay0 = true
  dep : d.depth ≤ m
  wt : d.weight ≤ w
  sh : d.intsShort 13 = true
  sw : d.showable = true
structure RpA (m w : Nat) (ds : List D) : Prop where
  lay : PyData.canLayAll0 ds = true
  dep : PyData.depthAll ds ≤ m
  wt : PyData.weightAll ds ≤ w
  sh : PyData.intsShortAll 13 ds = true
  sw : PyData.showableAll ds = true
theorem Rp.int {m : Nat} {i : Int} (h : i.natAbs < 2 ^ 39) : Rp m 40 (.int i) := by
  have hl : i.natAbs.log2 < 40 := by
    by_cases h0 : i.natAbs = 0
    · rw [h0]; decide
    · rw [Nat.log2_lt h0]; omega
  refine ⟨by simp [PyData.canLay0], by simp [PyData.depth], ?_, ?_, ?_⟩
  · simp only [PyData.weight]; split <;> omega
  · simp only [PyData.intsShort, decide_eq_true_eq]; exact PyData.shown_int_le (by omega)
  · simp only [PyData.showable, decide_eq_true_eq]; omega
theorem RpA.list {m w : Nat} {ds : List D} (h : RpA m w ds) : Rp (m + 1) w (.list ds) :=
  ⟨by simpa [PyData.canLay0] using h.lay, by simp only [PyData.depth]; have := h.dep; omega, by simpa [PyData.weight] using h.wt, by simpa [PyData.intsShort] using h.sh, by simpa [PyData.showable] using h.sw⟩
theorem RpA.tuple {m w : Nat} {ds : List D} (h : RpA m w ds) : Rp (m + 1) w (.tuple ds) :=
  ⟨by simpa [PyData.canLay0] using h.lay, by simp only [PyData.depth]; have := h.dep; omega, by simpa [PyData.weight] using h.wt, by simpa [PyData.intsShort] using h.sh, by simpa [PyData.showable] using h.sw⟩
end Sh
set_option Elab.async false
set_option linter.all false
set_option maxRecDepth 100000
set_option maxHeartbeats 4000000
namespace Sh
open PySem PySem.Spec PyProof.Rows L2 DL
end Sh
set_option Elab.async false
set_option linter.all false
set_option maxRecDepth 100000
set_option maxHeartbeats 4000000
namespace Sh
open PySem PySem.Spec PyProof.Rows L2 DL Sh
end Sh
set_option Elab.async false
set_option linter.all false
set_option maxRecDepth 100000
set_option maxHeartbeats 4000000
namespace Sh
open PySem PySem.Spec PyProof.Rows L2 DL
section
end
end Sh
set_option Elab.async false
set_option linter.all false
set_option maxRecDepth 100000
set_option maxHeartbeats 4000000
namespace Sh
open PySem PySem.Spec PyProof.Rows L2 DL
section
end
end Sh
set_option Elab.async false
set_option linter.all false
set_option maxRecDepth 100000
set_option maxHeartbeats 1000000
namespace Sh
def lowEq (n : Nat) (x y : List Nat) : Prop := ∀ e, n ≤ e → e < 2 * n → (n ≤ gt x e ∨ n ≤ gt y e) → gt x e = gt y e
theorem lowEq.symm {n : Nat} {x y : List Nat} (h : lowEq n x y) : lowEq n y x := fun e h1 h2 h3 => (h e h1 h2 h3.symm).symm
section
end
section
end
end Sh
set_option Elab.async false
set_option linter.all false
set_option maxRecDepth 100000
set_option maxHeartbeats 4000000
namespace Sh
open PySem PySem.Spec PyProof.Rows L2 DL
end Sh
set_option Elab.async false
set_option linter.all false
set_option maxRecDepth 100000
set_option maxHeartbeats 4000000
namespace Sh
open PySem PySem.Spec PyProof.Rows L2 DL
section
end
section
end
end Sh
set_option Elab.async false
set_option linter.all false
set_option maxRecDepth 100000
set_option maxHeartbeats 4000000
namespace Sh
open PySem PySem.Spec PyProof.Rows L2 DL
section
end
end Sh
set_option Elab.async false
set_option linter.all false
set_option maxRecDepth 100000
set_option maxHeartbeats 4000000
namespace DX
open PySem PySem.Spec PyProof.Rows L2
open Builtin Builtin.ObjectAttr
/-- what is wanted of the built-in class below -/
structure Bas (B newId initId : String) (bm : List Value) : Prop where
  fx : ExcBaseFacts B newId initId bm
  sf : StoreFacts B bm "object.__setattr__" "object"
  ty : typeOf (.type B) = pure (.type "type")
  st : Manifest.isStub B = false
  hi : PySem.W.handedIn (.builtin initId) = true
abbrev mLE : List Value := [.type "LookupError", .type "Exception", .type "BaseException", .type "object"]
theorem bas_LE : Bas "LookupError" "LookupError.__new__" "LookupError.__init__" mLE := ⟨F.excBase_LookupError, F.store_LookupError, by kernel_rfl, by decide +kernel, by decide +kernel⟩
section
variable {prog : Program} {w : World} {A : Around} {R : Result → Shared → Prop} {hp : Heap} {g : Array GenState} {dr : Drawn} {t : Nat} {os : OsState} {B newId initId : String} {bm : List Value}
/-- self.f = v where self has no dict yet -/
theorem sa_first {K : W.Frag} {f : Str} {tk : Tok} {v : Value} {x C : Addr} {fv : Array Value} (Z : Bas B newId initId bm) (X : K.In hp) (hx : hp.get? x = some { cls := .ref C, data := .fields fv })
    (ho : W.excOver K C bm = true) (hd : W.hasDictIn K C = true) (hn : W.findIn K (.ref C) f = some none)
    (q : ∀ h' tk' dx, (∀ b o, b ≠ x → hp.get? b = some o → h'.get? b = some o) → hp.objs.size ≤ dx → dx ≠ x → h'.get? x = some { cls := .ref C, dict := some dx, data := .fields fv } →
      h'.Ns1 dx (fun y => if y = f then some v else none) → R (.ok (.ret .none)) ⟨h', g, dr, tk', os⟩) :
    codeAny (model prog w) A (.call (.builtin "object.__setattr__") ⟨[.ref x, .str f tk, v], []⟩) R ⟨hp, g, dr, t, os⟩ := by
  have ne : x ≠ hp.objs.size := Nat.ne_of_lt (Heap.lt_size hx)
  refine W.osa_openX (s := ⟨hp, g, dr, t, os⟩) (od := none) (r := none) Z.sf X ⟨hx, rfl, rfl, trivial⟩ ho (by unfold W.takerIn; rw [hn]; rfl) fun b => ?_
  obtain ⟨cd, hc, hdc⟩ := W.any_some hd
  have L : W.Looks (model prog w) hp (classData C) cd := W.looks_clsIn X hc
  obtain ⟨nm, bs, mro, ns, qn, hd', sn, sb, ab, col, del⟩ := cd
  dsimp only at hdc
  subst hdc
  show wpAny _ _ (storeInOwnDict (.ref x) (.ref C) (.str f tk) f v b) _ _ _
  unfold storeInOwnDict ownDictForStores
  repeat (first | with_reducible refine HandSPX.store_in_new ?_ ?_ | with_reducible refine wpAny_loadPart_at hx ?_ | with_reducible refine L.at ?_ | wp_step)
  · exact ⟨_, #[], _, (Heap.get?_update_ne _ _ _ _ ne.symm).trans (Heap.get?_push_at rfl rfl), rfl, fun e he => absurd he (by simp), fun _ => rfl⟩
  · intro h' tk' hn' hs
    refine q h' tk' hp.objs.size (fun b o hb e => ?_) (Nat.le_refl _) ne.symm ?_ hn'
    · exact (hs.2 b (Nat.ne_of_lt (Heap.lt_size e))).trans ((Heap.get?_update_ne _ _ _ _ hb).trans (Heap.get?_push_of_some _ e))
    · exact (hs.2 x ne).trans (Heap.get?_update_self _ (Heap.get?_push_of_some _ hx) rfl)
end
/-- what the written part says of an own class of errors -/
structure Own (K : PySem.W.Frag) (C : Addr) (newId : String) (bm : List Value) : Prop where
  cls : ∃ nm q N bs tl sn sub ab col dd k0 k1 k2 k3 k5, K.lookup C = some (excClassObj nm q C N bs tl true sn sub ab col dd k0 k1 k2 k3 k5 newId) ∧ W.excTail bm tl = true
  sa : PySem.W.findIn K (.ref C) "__setattr__" = some (some (.builtin "object.__setattr__"))
  exC : PySem.W.subIn K (.ref C) (.type "BaseException") = some true
  tyC : PySem.W.typeIn K (.ref C) = some (.type "type")
  kC : PySem.W.keepIn K (.ref C) = true
theorem Own.over {K : PySem.W.Frag} {C : Addr} {newId : String} {bm : List Value} (T : Own K C newId bm) : W.excOver K C bm = true ∧ W.hasDictIn K C = true := by
  obtain ⟨nm, q, N, bs, tl, sn, sub, ab, col, dd, k0, k1, k2, k3, k5, hC, ht⟩ := T.cls
  have hcl : W.clsIn K C = some { name := nm, bases := bs, mro := .ref C :: tl, ns := N, qualname := q, hasDict := true, slotNames := sn, subclasses := sub, abstract := ab, collection := col, hasDel := false } := by unfold W.clsIn; rw [hC] <;> rfl
  refine ⟨?_, ?_⟩
  · unfold W.excOver; rw [hcl]
    show (C == C && W.excTail bm tl) = true
    rw [ht, beq_self_eq_true]; rfl
  · unfold W.hasDictIn; rw [hcl]; rfl
section
variable {X : Cx} {pins : List (Addr × Obj)} {σ : L2.St} {H : Hp} {s : Shared} {a C : Addr} {f : Str} {y : V} {u : Value} {E : Value → Shared → Prop} {A : Around} {B newId initId : String} {bm : List Value}
theorem set_first {Q : Unit → Shared → Prop} (Z : Bas B newId initId bm) (T : Own X.K C newId bm) (I : Inv X pins σ H s) (e : H a = some (exo a C none)) (hno : PySem.W.findIn X.K (.ref C) f = some none) (ry : RelV y u)
    (h : ∀ dx s', H dx = none → dx ≠ a → Inv X pins σ (upd (upd H dx (exd dx [(f, y)])) a (exo a C (some dx))) s' → Q () s') : wpAny (model X.prog X.w) A (setAttr (.ref a) f u) Q E s := by
  obtain ⟨t1, ho⟩ := exo_at I.hok e
  obtain ⟨hp, g, dr, t, os⟩ := s
  refine PySem.W.set_plain I.kIn (ox := { cls := .ref C, dict := none, data := .fields #[.ref t1, .none, .none, .none, .bool false, .none] }) (od := none) ⟨ho, rfl, rfl, trivial⟩ T.sa ?_
  refine sa_first Z I.kIn ho T.over.1 T.over.2 hno fun h' tk' dx k dn dne hx hn => ?_
  have hnd : H dx = none := I.hok.fresh dn
  have nd : ∀ {b : Addr} {o : Obj}, hp.get? b = some o → b ≠ dx := fun {b o} q => Nat.ne_of_lt (Nat.lt_of_lt_of_le (Heap.lt_size q) dn)
  have na : ∀ {b : Addr}, H b = none → b ≠ a := fun {b} n z => by rw [z, e] at n; cases n
  have un : Un X.fs [] H (upd (upd H dx (exd dx [(f, y)])) a (exo a C (some dx))) hp h' :=
    ⟨fun b o q n _ _ => k b o (na n) q, fun b o q n _ _ => ⟨o.slots, k b o (na n) q⟩, fun b o q n _ => by rw [upd_ne (na n), upd_ne (nd q)]; exact n, fun b o q _ => by
      by_cases hb : b = a
      · rw [hb]; exact ⟨_, hx⟩
      · exact ⟨o, k b o hb q⟩, fun b xs q => by rw [upd_ne (at_ne e q exo_tup), upd_ne (ne_of_none q hnd), q], fun b o v q => by rw [upd_ne (at_ne e q exo_frz), upd_ne (ne_of_none q hnd), q],
      fun b ps q => ⟨#[], by rw [upd_ne (at_ne e q exo_tbl), upd_ne (ne_of_none q hnd), q]; simp⟩⟩
  refine h dx _ hnd dne (I.un (t' := tk') un fun b o q => ?_)
  by_cases hb : b = a
  · subst hb; rw [upd_same] at q; cases q; exact exo_ok hx
  · rw [upd_ne hb] at q
    by_cases hd : b = dx
    · subst hd; rw [upd_same] at q; cases q
      exact exd_ok hn (relO_put (fs := []) ry fun g => True.intro)
    · rw [upd_ne hd] at q
      refine (I.hok b o q).stay (fun c v hc z => k c v ?_ z) (fun c hc => ?_) fun c xs hc => ?_
      · rcases hc with hc | hc
        · rw [hc]; exact hb
        · exact at_ne e hc exo_own
      · rw [upd_ne (at_ne e hc exo_own), upd_ne (ne_of_none hc hnd)]; exact hc
      · rw [upd_ne (at_ne e hc exo_tup), upd_ne (ne_of_none hc hnd)]; exact hc
/-- B.__init__(self, ..) -/
theorem base_init {us : List Value} {Q : Value → Shared → Prop} (Z : Bas B newId initId bm) (T : Own X.K C newId bm) (I : Inv X pins σ H s) (e : H a = some (exo a C none)) (hl : us.length ≤ sizeLine) (h : ∀ s', Inv X pins σ H s' → Q .none s') :
    wpAny (model X.prog X.w) A (call (.builtin initId) (.ref a :: us)) Q E s := by
  obtain ⟨nm, q, N, bs, tl, sn, sub, ab, col, dd, k0, k1, k2, k3, k5, hC, ht⟩ := T.cls
  obtain ⟨t1, ho⟩ := exo_at I.hok e
  obtain ⟨hp, g, dr, t, os⟩ := s
  refine wpAny_call (PySem.HandSPX.init_base Z.fx (fun Y => W.excTail_contains Y tl ht) (I.kIn _ _ hC) ho hl fun h' t2 k hx => ?_)
  have J := I.write (t' := t) (x := a) (e := a) (o := exo a C none) (by rw [e]; exact True.intro) (.inl rfl) k ⟨_, hx⟩ (exo_ok hx)
  have eu : upd H a (exo a C none) = H := by
    funext b
    by_cases hb : b = a
    · rw [hb, upd_same, e]
    · rw [upd_ne hb]
  rw [eu] at J
  exact h _ J
end
section
variable {X : Cx} {o e : Expr} {es : List Expr} {to te : TE} {ta : TA} {f : Str} {p p' p1 p2 pos : Pos} {B newId initId : String} {bm : List Value} {x : Str}
theorem pe_ini {pl : Sem Bool} {C : Addr} (Z : Bas B newId initId bm) (T : Own X.K C newId bm) (hg : Gl X x) (hm : X.mg x = none) (hv : bootBuiltins x = some (.type B)) (vV : PySem.W.findCls X.K (.type B) (.type "type") "__init__" = some (.val (.builtin initId))) (ha : PA X (e :: es) ta)
    (hnn : x ≠ "__name__" := by decide) (hdb : (x == ("__debug__" : Str)) = false := by decide)
    (hc : eval (.Call (.Attribute (.Name x p1) "__init__" p2) (e :: es) [] pos) X.env = (do
      let ov ← eval (.Name x p1) X.env
      standAt p2.atName
      let (fn, first) ← holding [ov] (getMethod ov "__init__" pl)
      callWith pos fn first (backTo pos (starEach (e :: es) X.env)) (backToKw pos (keywordEach [] X.env))) := by rfl)
    (he : starEach (e :: es) X.env = (false, eval e X.env) :: starEach es X.env := by rfl) (hpl : (backTo pos (starEach es X.env)).any (·.1) = false := by rfl) :
    PE X (.Call (.Attribute (.Name x p1) "__init__" p2) (e :: es) [] pos) (fun σ H Q => ta σ H fun vs H1 => ∃ (a : Addr) (ws : List V), vs = .ref a :: ws ∧ ws.length ≤ 1000 ∧ H1 a = some (exo a C none) ∧ Q .non H1) := by
  refine ⟨fun pins s σ H Q I h => ?_⟩
  refine PySem.W.methodCall_KW (ld_blt I hg hm hv ?_ hnn hdb) hc
  obtain ⟨m, fr⟩ := I.fr
  refine PySem.W.method_type fr I.ok.mod.kin Z.ty Z.st vV Z.hi ?_
  show wpAny _ _ (callWith pos (Value.builtin initId) [] (backTo pos (starEach (e :: es) X.env)) []) _ _ _
  refine PyProof.Rows.callWith_method1 (thn (ha.run pos pins _ σ H _ (I.tok _) h) fun us s1 ⟨vs, H1, I1, r1, a, ws, ev, hl, ea, q⟩ => ?_) he hpl
  subst ev
  cases r1 with
  | @cons _ u0 _ ur ra rw' =>
    obtain rfl : u0 = Value.ref a := ra
    have hlen : ur.length ≤ sizeLine := by rw [← Paired.length rw', sizeLine_eq]; omega
    exact base_init Z T I1 ea hlen fun s' J => ⟨.non, H1, J, rfl, q⟩
theorem ps_st1 {C : Addr} (Z : Bas B newId initId bm) (T : Own X.K C newId bm) (hno : PySem.W.findIn X.K (.ref C) f = some none) (ho : PE X o to) (he : PE X e te) (hs : swapsWith e (some (.Attribute o f p')) pos.line X.env = pure false := by rfl) :
    PS X (.Assign [.Attribute o f p'] e pos) (fun D σ H => te σ H fun y H1 => to σ H1 fun x H2 => ∃ a : Addr, x = .ref a ∧ H2 a = some (exo a C none) ∧ ∀ dx, H2 dx = none → dx ≠ a → D.nx σ (upd (upd H2 dx (exd dx [(f, y)])) a (exo a C (some dx)))) := by
  refine ⟨fun pins s σ H D I h => ?_⟩
  refine plainObj_wpAny_Assign_Attribute (thn (he.run pins s σ H _ I h) fun v s1 ⟨y, H1, I1, r1, q1⟩ => thn (ho.run pins s1 σ H1 _ I1 q1) fun u s2 ⟨z, H2, I2, r2, a, ex, ea, q⟩ => ?_) hs
  subst ex
  obtain rfl : u = Value.ref a := r2
  exact set_first Z T I2 ea hno r1 fun dx s' n ne J => ⟨σ, _, J, q dx n ne⟩
end
section
end
/-- what __init__ of an own class does: v is stored as f; or nothing is -/
def spI (C : Addr) (f : Str) : Sp := fun vs H Q _ => ∃ a v, vs = [.ref a, v] ∧ H a = some (exo a C none) ∧ ∀ d, H d = none → d ≠ a → Q .non (upd (upd H d (exd d [(f, v)])) a (exo a C (some d)))
def spI0 (C : Addr) : Sp := fun vs H Q _ => ∃ a, vs = [.ref a] ∧ H a = some (exo a C none) ∧ Q .non H
section
variable {X : Cx} {x : Str} {C fI : Addr} {k : Nat} {fd : FuncData} {ps : List Str} {f : Str} {e : Expr} {te : TE} {p pos : Pos} {B newId initId : String} {bm : List Value}
theorem vals1 {v : V} {us : List Value} (r : Vals [v] us) : ∃ u, us = [u] ∧ RelV v u := by
  cases r with
  | cons r1 r2 =>
    cases r2
    exact ⟨_, rfl, r1⟩
/-- C(e) -/
theorem pmk_1 {ta : TA} (Z : Bas B newId initId bm) (T : Own X.K C newId bm) (iC : PySem.W.findIn X.K (.ref C) "__init__" = some (some (.ref fI))) (tI : PySem.W.typeIn X.K (.ref fI) = some (.type "function"))
    (F1 : FnOk X.prog X.w X.K X.mg X.base CX0 k fI fd ps (spI C f)) (hr : Room (k + 1) X.A) (hb : Binds X.K fd ps []) (hg : Gl X x) (hm : X.mg x = some (.ref C)) (ha : PA X [e] ta)
    (hdb : (x == ("__debug__" : Str)) = false := by decide) (he : starEach [e] X.env = (false, eval e X.env) :: starEach [] X.env := by rfl) :
    PMk X (.Call (.Name x p) [e] [] pos) (fun σ H Q => ta σ H fun vs H1 => ∃ v, vs = [v] ∧ ∀ d, H1 d = none → Q (.ref C) (some d) (upd H1 d (.xd [(f, v)]))) := by
  intro pins s σ H Q I h
  obtain ⟨nm, q, N, bs, tl, sn, sub, ab, col, dd, k0, k1, k2, k3, k5, hC, ht⟩ := T.cls
  refine wpAny_Call_Name_kw (ld_glob I hg hm ?_ hdb)
  refine PySem.W.callWith_K (h₀ := X.base) I.ok.mod.kin T.kC (thn (ha.run pos pins s σ H _ I h) fun us s1 ⟨vs, H1, I1, r1, v, ev, q1⟩ => ⟨I1.kIn, ?_⟩) he rfl
  subst ev
  obtain ⟨hp, g, dr, tk, os⟩ := s1
  obtain ⟨u, rfl, ru⟩ := vals1 r1
  show wpAny _ _ (call (.ref C) [u]) _ _ _
  have hsz : hp.objs.size ≤ hp.objs.size + 1 := Nat.le_succ _
  have hn : H1 (hp.objs.size + 1) = none := I1.hok.fresh hsz
  have kk : ∀ b o, hp.get? b = some o → ((hp.push (PySem.W.kdv_tup [u])).push (PySem.HandSPX.excO C hp.objs.size)).get? b = some o := fun b o e => Heap.get?_push_of_some _ (Heap.get?_push_of_some _ e)
  have hget : ((hp.push (PySem.W.kdv_tup [u])).push (PySem.HandSPX.excO C hp.objs.size)).get? (hp.objs.size + 1) = some (PySem.HandSPX.excO C hp.objs.size) := by heap_get
  have I2 : Inv X pins σ (upd H1 (hp.objs.size + 1) (exo (hp.objs.size + 1) C none)) ⟨(hp.push (PySem.W.kdv_tup [u])).push (PySem.HandSPX.excO C hp.objs.size), g, dr, tk, os⟩ :=
    I1.laid (t' := tk) kk hsz (exo_ok hget)
  have r2 : Vals [V.ref (hp.objs.size + 1), v] [Value.ref (hp.objs.size + 1), u] := .cons rfl (.cons ru .nil)
  have hq : spI C f [V.ref (hp.objs.size + 1), v] (upd H1 (hp.objs.size + 1) (exo (hp.objs.size + 1) C none)) (fun z H2 => z = .non ∧ ∃ d, H1 d = none ∧ d ≠ hp.objs.size + 1 ∧ H2 = upd (upd (upd H1 (hp.objs.size + 1) (exo (hp.objs.size + 1) C none)) d (exd d [(f, v)])) (hp.objs.size + 1) (exo (hp.objs.size + 1) C (some d))) E0 :=
    ⟨_, v, rfl, upd_same, fun d hd ne => ⟨rfl, d, by rw [upd_ne ne] at hd; exact hd, ne, rfl⟩⟩
  have hl : ([Value.ref (hp.objs.size + 1), u] ++ []).length = ps.length := by
    have e := F1.len _ _ _ _ hq
    simpa using e
  refine wpAny_call (PySem.HandSPX.call_own Z.fx (fun Y => W.excTail_contains Y tl ht) (I1.kIn _ _ hC) (PySem.W.looks_findIn I1.kIn iC) (fun self => PySem.W.bind_fn I1.kIn self tI) (by rw [sizeLine_eq]; exact Nat.le_of_ble_eq_true rfl)
    (codeAny_mono (F1.run _ X.stack _ _ ⟨[Value.ref (hp.objs.size + 1), u], []⟩ [Value.ref (hp.objs.size + 1), u] _ _ E0 (hr.make C [u] []) (I2.env0.make C [u] []) (by have := hb ⟨(hp.push (PySem.W.kdv_tup [u])).push (PySem.HandSPX.excO C hp.objs.size), g, dr, tk, os⟩ [Value.ref (hp.objs.size + 1), u] I2.kIn hl; rw [List.append_nil] at this; exact this) r2 hq) fun r s' hq' => ?_))
  cases r with
  | error er => exact False.elim hq'
  | ok fl =>
   cases fl with
   | next => exact False.elim hq'
   | brk => exact False.elim hq'
   | cont => exact False.elim hq'
   | ret z =>
    obtain ⟨z', H2, os2, bare2, un2, hok2, rv, ev, d, hd1, hda, eH⟩ := hq'
    subst ev eH
    obtain ⟨h2, g2, d2, t2, os'⟩ := s'
    have hd' : (upd (upd (upd H1 (hp.objs.size + 1) (exo (hp.objs.size + 1) C none)) d (exd d [(f, v)])) (hp.objs.size + 1) (exo (hp.objs.size + 1) C (some d))) d = some (exd d [(f, v)]) := by rw [upd_ne hda, upd_same]
    have en := mk_end (Q := Q) (d2 := d2) (t2 := t2) (raises_own T.exC T.tyC) I1 hsz kk un2 hok2 os2 bare2 upd_same hd' hd1 (by
      have z := q1 d hd1
      rw [show upd (del (upd (upd (upd H1 (hp.objs.size + 1) (exo (hp.objs.size + 1) C none)) d (exd d [(f, v)])) (hp.objs.size + 1) (exo (hp.objs.size + 1) C (some d))) (hp.objs.size + 1)) d (.xd [(f, v)]) = upd H1 d (.xd [(f, v)]) from ?_]
      · exact z
      · funext b
        by_cases hb : b = d
        · rw [hb, upd_same, upd_same]
        · rw [upd_ne hb, upd_ne hb]
          by_cases h3 : b = hp.objs.size + 1
          · rw [h3, del_same, hn]
          · rw [del_ne h3, upd_ne h3, upd_ne hb, upd_ne h3])
    exact ⟨rv, en⟩
end
end DX
set_option Elab.async false
set_option linter.all false
set_option maxRecDepth 100000
set_option maxHeartbeats 1000000
namespace DL
open PySem PySem.Spec PyProof.Rows L2
/-- an error over data: the class's name, its field -/
structure Xn where
  nm : Str
  fld : Option (Str × D)
abbrev Fx := En → Option (Xn × En)
abbrev GX := List D → Option Xn
def XV (cl : Str → Addr) (P : Pk) (T : Addr → Prop) (σ : SS) (ρ : En) (H : Hp) (n : Xn) (cls : Value) (d : Option Addr) : Prop :=
  cls = .ref (cl n.nm) ∧ match n.fld with
    | none => d = none
    | some (f, x) => ∃ dd v, d = some dd ∧ H dd = some (.xd [(f, v)]) ∧ Av P T σ ρ dd ∧ Rep (Av P T σ ρ) H v x
def DEx (cl : Str → Addr) (X : Cx) (e : Expr) (x : Fx) : Prop :=
  ∀ P T σ ρ H n ρ', Sim P T σ ρ H → x ρ = some (n, ρ') → ∀ W : WX, Takes X W → (∀ H' T' cls d, (∀ b, T b → T' b) → Sim P T' σ ρ' H' → Stp σ ρ H σ ρ' H' → XV cl P T' σ ρ' H' n cls d → W cls d σ H') → WE X e σ H fun _ _ => False
def DSx (cl : Str → Addr) (X : Cx) (st : Stmt) (x : Fx) : Prop :=
  ∀ P T σ ρ H n ρ', Sim P T σ ρ H → x ρ = some (n, ρ') → ∀ W : WX, Takes X W → (∀ σ' H' T' cls d, (∀ b, T b → T' b) → Sim P T' σ' ρ' H' → Stp σ ρ H σ' ρ' H' → XV cl P T' σ' ρ' H' n cls d → W cls d σ' H') → ∀ Ds : Ends, WS X st Ds σ H
def DSsx (cl : Str → Addr) (X : Cx) (st : List Stmt) (x : Fx) : Prop :=
  ∀ P T σ ρ H n ρ', Sim P T σ ρ H → x ρ = some (n, ρ') → ∀ W : WX, Takes X W → (∀ σ' H' T' cls d, (∀ b, T b → T' b) → Sim P T' σ' ρ' H' → Stp σ ρ H σ' ρ' H' → XV cl P T' σ' ρ' H' n cls d → W cls d σ' H') → ∀ Ds : Ends, WSs X st Ds σ H
section
variable {X : Cx} {e : Expr} {es : List Expr} {st : Stmt} {sts : List Stmt} {σ : SS} {H : Hp}
theorem WE.mono {Q Q' : VK} (h : WE X e σ H Q) (q : ∀ v H', Q v H' → Q' v H') : WE X e σ H Q' := fun pins s I => wpAny_mono (h pins s I) (fun u s' ⟨v, H', I', r, z⟩ => ⟨v, H', I', r, q v H' z⟩) fun _ _ x => x
theorem WE.no {Q' : VK} (h : WE X e σ H fun _ _ => False) : WE X e σ H Q' := h.mono fun _ _ z => z.elim
theorem WA.no {Q' : List V → Hp → Prop} (h : WA X es σ H fun _ _ => False) : WA X es σ H Q' := fun pos pins s I => wpAny_mono (h pos pins s I) (fun u s' ⟨v, H', I', r, z⟩ => z.elim) fun _ _ x => x
/-- what raises nothing, in any context -/
theorem DE.up {f : Fe} (h : DE X.nox e f) : DE X e f := fun P T σ ρ H r ρ' S hf Q q => PE.we (PE.nox peW) (h P T σ ρ H r ρ' S hf Q q)
theorem DT.up {f : Ft} (h : DT X.nox e f) : DT X e f := fun P T σ ρ H r ρ' S hf Q q => PT.wt (PT.nox ptW) (h P T σ ρ H r ρ' S hf Q q)
theorem DSs.up {f : Fst} (h : DSs X.nox sts f) : DSs X sts f := fun P T σ ρ H r S hf Q q => PSs.wss (PSs.nox pssW) (h P T σ ρ H r S hf Q q)
theorem DS.up {f : Fst} (h : DS X.nox st f) : DS X st f := fun P T σ ρ H r S hf Q q => PS.ws ⟨fun pins s σ H D I hw => wpAny_mono ((psW (X := X.nox)).run pins s σ H D (I.wish _) hw) (fun _ _ q => q.unwish) fun _ _ z => False.elim z⟩ (h P T σ ρ H r S hf Q q)
theorem DA.up {f : Fa} (h : DA X.nox es f) : DA X es f := fun P T σ ρ H r ρ' S hf Q q => PA.wa ⟨fun pos pins s σ H Q I hw => wpAny_mono ((paW (X := X.nox)).run pos pins s σ H Q (I.wish _) hw) (fun _ _ ⟨vs, H', I', r, q⟩ => ⟨vs, H', I'.unwish, r, q⟩) fun _ _ z => False.elim z⟩ (h P T σ ρ H r ρ' S hf Q q)
end
def xseq (f : Fst) (x : Fx) : Fx := fun ρ => (f ρ).bind fun o => match o with
  | .nx ρ1 => x ρ1
  | _ => none
def xor' (x y : Fx) : Fx := fun ρ => match x ρ with
  | some z => some z
  | none => y ρ
def xif (c : Ft) (x y : Fx) : Fx := fun ρ => (c ρ).bind fun z => if z.1 then x z.2 else y z.2
def xno : Fx := fun _ => none
section
variable {cl : Str → Addr} {X : Cx} {e : Expr} {es : List Expr} {st : Stmt} {rest : List Stmt} {f : Fst} {x y : Fx} {c : Ft} {pos : Pos}
theorem dssx_no {sts : List Stmt} : DSsx cl X sts xno := fun P T σ ρ H n ρ' S hf => by cases hf
theorem dssx_here (h : DSx cl X st x) : DSsx cl X (st :: rest) x := fun P T σ ρ H n ρ' S hf W tk q Ds => PSs.wss (pss_cons psW pssW) (h P T σ ρ H n ρ' S hf W tk q _)
theorem dssx_next (h1 : DS X.nox st f) (h2 : DSsx cl X rest x) : DSsx cl X (st :: rest) (xseq f x) := fun P T σ ρ H n ρ' S hf W tk q Ds => by
  simp only [xseq, Option.bind_eq_some_iff] at hf
  obtain ⟨o, e1, e2⟩ := hf
  cases o with
  | nx ρ1 => exact PSs.wss (pss_cons psW pssW) (h1.up P T σ ρ H _ S e1 _ fun σ1 H1 S1 st1 => h2 P T σ1 ρ1 H1 n ρ' S1 e2 W tk (fun σ2 H2 T2 cls d l S2 st2 v => q σ2 H2 T2 cls d l S2 (st1.trans st2) v) _)
  | rt r ρ1 => cases e2
  | bk ρ1 => cases e2
  | ct ρ1 => cases e2
theorem dssx_or (h1 : DSsx cl X rest x) (h2 : DSsx cl X rest y) : DSsx cl X rest (xor' x y) := fun P T σ ρ H n ρ' S hf => by
  unfold xor' at hf
  cases e : x ρ with
  | none => rw [e] at hf; exact h2 P T σ ρ H n ρ' S hf
  | some z => rw [e] at hf; cases hf; exact h1 P T σ ρ H _ _ S e
theorem dsx_if {t : Expr} {p1 p2 : List Stmt} (hc : DT X.nox t c) (ha : DSsx cl X p1 x) (hb : DSsx cl X p2 y) : DSx cl X (.If t p1 p2 pos) (xif c x y) := fun P T σ ρ H n ρ' S hf W tk q Ds => by
  simp only [xif, Option.bind_eq_some_iff] at hf
  obtain ⟨⟨b, ρ1⟩, e1, e2⟩ := hf
  refine PS.ws (ps_if ptW pssW pssW) (hc.up P T σ ρ H b ρ1 S e1 _ fun H1 S1 st1 kp1 => ?_)
  have q' : ∀ σ' H' T' cls d, (∀ b, T b → T' b) → Sim P T' σ' ρ' H' → Stp σ ρ1 H1 σ' ρ' H' → XV cl P T' σ' ρ' H' n cls d → W cls d σ' H' := fun σ' H' T' cls d l S' st' v => q σ' H' T' cls d l S' (st1.trans st') v
  cases b with
  | true => exact ha P T σ ρ1 H1 n ρ' S1 e2 W tk q' Ds
  | false => exact hb P T σ ρ1 H1 n ρ' S1 e2 W tk q' Ds
theorem dsx_expr (he : DEx cl X e x) (hs : swapsWith e none pos.line X.env = pure false := by rfl) : DSx cl X (.Expr e pos) x := fun P T σ ρ H n ρ' S hf W tk q Ds =>
  PS.ws (ps_expr peW hs) (he P T σ ρ H n ρ' S hf W tk fun H' T' cls d l S' st' v => q σ H' T' cls d l S' st' v).no
theorem dsx_ret (he : DEx cl X e x) : DSx cl X (.Return (some e) pos) x := fun P T σ ρ H n ρ' S hf W tk q Ds =>
  PS.ws (ps_ret peW) (he P T σ ρ H n ρ' S hf W tk fun H' T' cls d l S' st' v => q σ H' T' cls d l S' st' v).no
theorem dsx_set {i : Nat} {z : Str} {pos' : Pos} (hN : X.N.Nodup) (he : DEx cl X e x) (hi : X.N[i]? = some z := by rfl) (hx : Loc X.env.scope z := by first | exact Or.inl rfl | exact Or.inr rfl) (hs : swapsWith e (some (.Name z pos')) pos.line X.env = pure false := by rfl) (hf : X.fn z = true ∨ X.env.scope.names.lookup z = some .local := by first | exact .inl rfl | exact .inr rfl | assumption) :
    DSx cl X (.Assign [.Name z pos'] e pos) x := fun P T σ ρ H n ρ' S hf' W tk q Ds =>
  PS.ws (ps_set hN hi hx peW hs hf) (he P T σ ρ H n ρ' S hf' W tk fun H' T' cls d l S' st' v => q σ H' T' cls d l S' st' v).no
/-- a raise inside a loop's body -/
def xforD (b : Fg) (body : Fst) (xb : Fx) : List D → Fx
  | [], _ => none
  | d :: ds, ρ => (b d ρ).bind fun ρ1 => match xb ρ1 with
    | some z => some z
    | none => (body ρ1).bind fun o => match o with
      | .nx ρ2 => xforD b body xb ds ρ2
      | .ct ρ2 => xforD b body xb ds ρ2
      | _ => none
def xfor (g : Fi) (b : Fg) (body : Fst) (xb : Fx) : Fx := fun ρ => (g ρ).bind fun z => xforD b body xb z.1 z.2
theorem dsx_for {tg iter : Expr} {is : List Nat} {g : Fi} {b : Fg} {body : List Stmt} {fb : Fst} {xb : Fx} (hp : PassesOwn (model X.prog X.w) X.A X.env X.xe) (hc : X.calm = true) (hi : DI X tg iter g) (hg : DG X tg is b) (hb : DSs X.nox body fb) (hx : DSsx cl X body xb) (hs : ∀ x, foldedSetIterable iter X.env x = pure x := by intro _; rfl) :
    DSx cl X (.For tg iter body [] pos) (xfor g b fb xb) := fun P T σ ρ H n ρ' S hf W tk q Ds => by
  simp only [xfor, Option.bind_eq_some_iff] at hf
  obtain ⟨⟨items, ρ1⟩, e1, e2⟩ := hf
  refine PS.ws (ps_for hp hc piW pgW pssW hs) (hi P T σ ρ H items ρ1 S e1 _ fun J H1 T1 S1 st1 kp1 tg1 Wk => ?_)
  refine ⟨fun i m σ' H' => m = items.length - i ∧ i ≤ items.length ∧ ∃ ρi, Sim P T1 σ' ρi H' ∧ Stp σ ρ1 H1 σ' ρi H' ∧ xforD b fb xb (items.drop i) ρi = some (n, ρ'), ⟨_, rfl, Nat.zero_le _, ρ1, S1, .refl, e2⟩, ?_⟩
  rintro i m σ2 H2 ⟨rfl, hi, ρi, S2, st2, e3⟩
  by_cases hlt : i < items.length
  · right
    have hd : items.drop i = items[i] :: items.drop (i + 1) := List.drop_eq_getElem_cons hlt
    rw [hd] at e3
    simp only [xforD, Option.bind_eq_some_iff] at e3
    obtain ⟨ρ2, e4, e5⟩ := e3
    refine ⟨Wk.go i H2 st2.fr hlt, fun σ' H' => i + 1 ≤ items.length ∧ ∃ ρi, Sim P T1 σ' ρi H' ∧ Stp σ ρ1 H1 σ' ρi H' ∧ xforD b fb xb (items.drop (i + 1)) ρi = some (n, ρ'), fun σ' H' h => ⟨_, by omega, rfl, h.1, h.2⟩, fun z H3 hy => ?_⟩
    obtain ⟨up, d, ed, rd⟩ := Wk.yld i H2 st2.fr hlt z H3 hy
    have ed' : items[i] = d := by
      rw [List.getElem?_eq_getElem hlt] at ed; exact Option.some.inj ed
    rw [ed'] at e4
    obtain ⟨S3, st3⟩ := S2.grow .refl up (fun b hb => let ⟨o, e⟩ := (S2.tn b hb).1; ⟨o, up b o e⟩)
    have rd' : Rep (Av P T1 σ2 ρi) H3 z d := rd.mono fun a u h e => by
      refine ⟨?_, e⟩
      rcases h with ⟨⟨h1, h2, h3⟩, o', e'⟩ | h
      · refine ⟨h1, fun z => ?_, h3⟩
        rcases st2.os a z with z | z
        · exact h2 z
        · rw [e'] at z; cases z
      · refine ⟨.inr (h0_none S2 h), fun z => ?_, fun z => ?_⟩
        · obtain ⟨o', e'⟩ := own_dom S2 z
          rw [h] at e'; cases e'
        · obtain ⟨⟨o', e'⟩, _⟩ := S2.tn a z
          rw [h] at e'; cases e'
    refine hg P T1 σ2 ρi H3 z d ρ2 S3 rd' e4 _ fun σ4 H4 S4 st4 _ => ?_
    have st5 := (st2.trans st3).trans st4
    cases ex : xb ρ2 with
    | some z =>
      rw [ex] at e5
      cases e5
      exact hx P T1 σ4 ρ2 H4 n ρ' S4 ex W tk (fun σ' H' T' cls d l S' st' v => q σ' H' T' cls d (fun b hb => l b (tg1.1 b hb)) S' (st1.trans (st5.trans st')) v) _
    | none =>
      rw [ex] at e5
      simp only [Option.bind_eq_some_iff] at e5
      obtain ⟨o2, e6, e7⟩ := e5
      refine hb.up P T1 σ4 ρ2 H4 o2 S4 e6 _ ?_
      cases o2 with
      | nx ρ3 => exact fun σ' H' S' st' => ⟨hlt, ρ3, S', st5.trans st', e7⟩
      | ct ρ3 => exact fun σ' H' S' st' => ⟨hlt, ρ3, S', st5.trans st', e7⟩
      | bk ρ3 => cases e7
      | rt r ρ3 => cases e7
  · have e : i = items.length := by omega
    subst e
    rw [List.drop_length] at e3
    cases e3
end
section
end
end DL
set_option Elab.async false
set_option linter.all false
set_option maxRecDepth 100000
set_option maxHeartbeats 1000000
namespace DL
open PySem PySem.Spec PyProof.Rows L2
structure PostX (cl : Str → Addr) (S : Addr → Prop) (H : Hp) (n : Xn) (cls : Value) (d : Option Addr) (H' : Hp) : Prop where
  keep : ∀ b o, H b = some o → H' b = some o
  cls : cls = .ref (cl n.nm)
  fld : match n.fld with
    | none => d = none
    | some (f, x) => ∃ dd v, d = some dd ∧ H' dd = some (.xd [(f, v)]) ∧ (S dd ∨ H dd = none) ∧ Rep (fun b => S b ∨ H b = none) H' v x
def spX (cl : Str → Addr) (G : GX) : Sp := fun vs H _ E => ∃ (S : Addr → Prop) (ds : List D) (n : Xn), G ds = some n ∧ ArgsOk none S H vs ds ∧ ∀ cls d H', PostX cl S H n cls d H' → E cls d H'
def toX (np n : Nat) (x : Fx) : GX := fun ds => if ds.length = np then (x (en0 none n ds)).map (·.1) else none
def xcall (G : GX) (fs : Fa) : Fx := fun ρ => (fs ρ).bind fun z => (datA z.2 z.1).bind fun ds => (G ds).bind fun n => (relA z.2 z.1).map fun ρ2 => (n, ρ2)
section
variable {cl : Str → Addr} {P : Pk} {T : Addr → Prop} {σ : SS} {ρ ρ1 ρ2 : En} {H : Hp}
theorem xcall_core {G : GX} {rs : List RV} {H1 : Hp} {T1 : Addr → Prop} {vs : List V} {ds : List D} {n : Xn} {Q : VK} {E : XK} (S0 : Sim P T σ ρ H) (A : AftA P T σ ρ H rs ρ1 vs H1 T1) (hd : datA ρ1 rs = some ds) (hG : G ds = some n)
    (hr : relA ρ1 rs = some ρ2) (q : ∀ H' cls d, Sim P T σ ρ2 H' → Stp σ ρ H σ ρ2 H' → XV cl P T σ ρ2 H' n cls d → E cls d H') : spX cl G vs H1 Q E := by
  obtain ⟨S2, st2, kp2, r2⟩ := relA_spec A.sim A.val A.tg.1 (tx_not A S0) hd hr
  have S2T := S2.less A.tg.1
  refine ⟨fun b => Av P T σ ρ2 b, ds, n, hG, ⟨by rw [A.val.length, datA_len hd], fun i v d _ h1 h2 => ?_, fun i v d hk => (nomatch hk), fun b zs hz => ?_⟩, fun cls d H' po => ?_⟩
  · obtain ⟨d', q1, q2⟩ := r2.get h1
    rw [h2] at q1; cases q1; exact q2
  · obtain ⟨t1, t2⟩ := S2T.tp b zs hz
    exact ⟨t1, tup_own S2T hz, t2⟩
  · obtain ⟨S3, st3⟩ := S2T.grow .refl po.keep (fun b hb => let ⟨o, e⟩ := (S2T.tn b hb).1; ⟨o, po.keep b o e⟩)
    have nw : ∀ b, H1 b = none → Av P T σ ρ2 b := fun b z => by
      refine ⟨.inr (h0_none S2T z), fun w => ?_, fun w => ?_⟩
      · obtain ⟨o', e'⟩ := own_dom S2T w
        rw [z] at e'; cases e'
      · obtain ⟨⟨o', e'⟩, _⟩ := S2T.tn b w
        rw [z] at e'; cases e'
    refine q H' cls d S3 ((A.stp.trans st2).trans st3) ⟨po.cls, ?_⟩
    have f := po.fld
    cases en : n.fld with
    | none => rw [en] at f; exact f
    | some fx =>
      obtain ⟨f1, x⟩ := fx
      rw [en] at f
      obtain ⟨dd, v, e1, e2, e3, e4⟩ := f
      exact ⟨dd, v, e1, e2, e3.elim id (nw dd), e4.mono fun b o z e => ⟨z.elim id (nw b), e⟩⟩
end
section
variable {X : Cx} {CX : CXT} {k : Nat} {f : Addr} {fd : FuncData} {ps ks : List Str} {sp : Sp} {E : L2.St → XK} {x : Str} {p pos : Pos} {e : Expr} {es : List Expr} {t : TA}
theorem FnG.goS {pins : List (Addr × Obj)} {σ : L2.St} {H : Hp} {s : Shared} {Q : VK} {args : Args} {us : List Value} {vs : List V} (F : FnG X.prog X.w X.K X.mg X.base CX k f fd ps sp) (hr : RoomG k X.A) (hx : PassesAt CX X σ (E σ)) (I : Inv X pins σ H s)
    (hb : BindsTo s fd args (ps.zip us)) (r : Vals vs us) (h : sp vs H Q (E σ)) : codeAny (model X.prog X.w) X.A (.call (.ref f) args) (fun r s' => match r with
      | .ok (.ret u) => EP X pins σ Q u s'
      | .ok _ => False
      | .error e => X.xe e s') s :=
  codeAny_mono (F.runs X.A X.stack s H args us vs Q (E σ) hr I.env0 hb r h) fun r s' hq => match r, hq with
    | .error e, hq => hx pins H s e s' I hq
    | .ok (.ret u), hq => I.after hq
    | .ok .next, hq => hq.elim
    | .ok .brk, hq => hq.elim
    | .ok .cont, hq => hq.elim
theorem pe_callX (F : FnG X.prog X.w X.K X.mg X.base CX k f fd ps sp) (hr : RoomG k X.A) (hg : Gl X x) (hm : X.mg x = some (.ref f)) (hk : PySem.W.keepIn X.K (.ref f) = true) (hb : Binds X.K fd ps []) (hx : ∀ σ, PassesAt CX X σ (E σ))
    (ha : PA X (e :: es) t) (hdb : (x == ("__debug__" : Str)) = false := by decide) (he : starEach (e :: es) X.env = (false, eval e X.env) :: starEach es X.env := by rfl) (hpl : (backTo pos (starEach es X.env)).any (·.1) = false := by rfl) :
    PE X (.Call (.Name x p) (e :: es) [] pos) (tCallS sp E t) := by
  refine ⟨fun pins s σ H Q I h => wpAny_Call_Name_kw (ld_glob I hg hm ?_ hdb)⟩
  refine PySem.W.callWith_K (h₀ := X.base) I.ok.mod.kin hk (thn (ha.run pos pins s σ H _ I h) fun us s1 ⟨vs, H1, I1, r, q⟩ => ⟨I1.kIn, ?_⟩) he hpl
  have hl : (us ++ []).length = ps.length := by rw [List.append_nil, ← r.length]; exact F.many _ _ _ _ q
  have b1 := hb s1 us I1.kIn hl
  rw [List.append_nil] at b1
  refine wpAny_call (codeAny_mono (F.goS hr (hx σ) I1 b1 r q) fun r s' hq => ?_)
  match r, hq with
  | .error e, hq => exact hq
  | .ok (.ret u), hq => exact hq
end
section
variable {cl : Str → Addr} {X : Cx} {G : GX} {fs : Fa} {y : Fx} {lv : Nat} {f : Addr} {fd : FuncData} {ps : List Str} {x : Str} {p pos : Pos} {e : Expr} {es : List Expr} {sp : Sp}
/-- the def that is called raises -/
theorem dex_call (FO : FnG X.prog X.w X.K X.mg X.base (L2.CX X.prog X.w) lv f fd ps (spX cl G)) (hr : RoomG lv X.A) (hg : Gl X x) (hm : X.mg x = some (.ref f)) (hk : PySem.W.keepIn X.K (.ref f) = true) (hb : Binds X.K fd ps [])
    (ha : DA X.nox (e :: es) fs) (hdb : (x == ("__debug__" : Str)) = false := by decide) (he : starEach (e :: es) X.env = (false, eval e X.env) :: starEach es X.env := by rfl) (hpl : (backTo pos (starEach es X.env)).any (·.1) = false := by rfl) :
    DEx cl X (.Call (.Name x p) (e :: es) [] pos) (xcall G fs) := by
  intro P T σ ρ H n ρ' S hf W tk q
  simp only [xcall, Option.bind_eq_some_iff, Option.map_eq_some_iff] at hf
  obtain ⟨⟨rs, ρ1⟩, h1, ds, h2, n', h3, ρ2, h4, h5⟩ := hf
  cases h5
  exact PE.we (pe_callX FO hr hg hm hk hb (fun σ => passAt tk σ) paW hdb he hpl) (ha.up P T σ ρ H rs ρ1 S h1 _ fun vs H1 T1 _ A => xcall_core S A h2 h3 h4 fun H' cls d S' st' w => q H' T cls d (fun _ h => h) S' st' w)
end
section
variable {P : Program} {w : World} {K : PySem.W.Frag} {mg : Str → Option Value} {base : Heap} {CX : CXT}
theorem fnG_ofX {k : Nat} {x qual : Str} {st : Stmt} {f : Addr} {fd : FuncData} {N ps : List Str} {sp : Sp} (F : Fun K x qual st f fd) (S : FnScope N ps (defScope st)) (len : ∀ vs H Q E, sp vs H Q E → vs.length = ps.length)
    (hbody : ∀ (cdv : Value) (A : Around) (outer : List Env) (s : Shared) (H : Hp) (vs : List V) (Q : VK) (E : XK), RoomG k (A.deeper (envOfC qual (defScope st) s.heap.objs.size f cdv)) → sp vs H Q E →
      WSs (cxOf CX P w K mg base N qual (defScope st) f cdv A outer s H E) (defBody st) { nx := fun _ H' => Q .non H', rt := Q } (start N vs) H) : FnG P w K mg base CX (k + 1) f fd ps sp := by
  obtain ⟨oc, od, kV, doc, pm, an, cdv, ct, osl, rfl, lk, hcd⟩ := F.ex
  refine ⟨len, fun A outer s H args us vs Q E hr e0 hb r hsp => ?_⟩
  have old : ∀ b o, base.get? b = some o → s.heap.get? b = some o := fun b o e => (e0.bs b o e).1
  have KX := e0.mod.kin.keeps old
  have hl := len _ _ _ _ hsp
  refine codeAny_call_function hr.rm.depth (KX _ _ lk) rfl S.co S.gen rfl (PySem.W.codeRec_of KX hcd) (hb _ _ _ _ (wpAny_newFunctionEnv_cells S.kind (fun y hy => ?_) fun env he s1 x => ?_))
  · rcases S.par y.1 (List.of_mem_zip hy).1 with q | q
    · exact .inl q
    · exact .inr ⟨q, PySem.W.cellsFrom_some _ _ _ (.inl q)⟩
  · subst he
    have I : Inv (cxOf CX P w K mg base N qual (defScope st) f cdv A outer s H E) [] (start N vs) H s1 := inv_start S hr.rm.hd e0 hl r x
    refine ⟨(e0.mod.nolimit.keeps old).keeps x.toInCall.keep, codeAny_func (wpAny_mono (hbody cdv A outer s H vs Q E (hr.deeper _) hsp [] s1 I) (fun fl s' hs => ?_) fun e s' hs => hs)⟩
    match fl, hs with
    | .ret u, ⟨v, σ', H', J, rv, q⟩ => exact ⟨v, H', J.os, J.bare, J.base, J.hok, rv, q⟩
    | .next, ⟨σ', H', J, q⟩ => exact ⟨V.non, H', J.os, J.bare, J.base, J.hok, rfl, q⟩
    | .brk, ⟨_, _, _, q⟩ => exact q.elim
    | .cont, ⟨_, _, _, q⟩ => exact q.elim
theorem okDX {cl : Str → Addr} {x qual : Str} {st : Stmt} {f : Addr} {fd : FuncData} {N ps : List Str} {lv : Nat} {xb : Fx} (F : Fun K x qual st f fd) (Sc : FnScope N ps (defScope st))
    (hb : ∀ (cdv : Value) (A : Around) (outer : List Env) (s : Shared) (H : Hp) (E : XK), RoomG lv (A.deeper (envOfC qual (defScope st) s.heap.objs.size f cdv)) → PassesOwn (model P w) (cxOf (L2.CX P w) P w K mg base N qual (defScope st) f cdv A outer s H E).A (cxOf (L2.CX P w) P w K mg base N qual (defScope st) f cdv A outer s H E).env (cxOf (L2.CX P w) P w K mg base N qual (defScope st) f cdv A outer s H E).xe →
      DSsx cl (cxOf (L2.CX P w) P w K mg base N qual (defScope st) f cdv A outer s H E) (defBody st) xb) (hps : ps.length ≤ N.length := by decide) :
    FnG P w K mg base (L2.CX P w) (lv + 1) f fd ps (spX cl (toX ps.length N.length xb)) := by
  have toXlen : ∀ {ds : List D} {n : Xn}, toX ps.length N.length xb ds = some n → ds.length = ps.length ∧ (xb (en0 none N.length ds)).map (·.1) = some n := fun {ds n} h => by
    unfold toX at h
    by_cases hl : ds.length = ps.length
    · rw [if_pos hl] at h; exact ⟨hl, h⟩
    · rw [if_neg hl] at h; cases h
  refine fnG_ofX F Sc (fun vs H Q E h => ?_) (fun cdv A outer s H vs Q E hr h => ?_)
  · obtain ⟨S, ds, r, h1, h2, _⟩ := h
    rw [h2.len, (toXlen h1).1]
  · obtain ⟨S, ds, n, h1, h2, q⟩ := h
    obtain ⟨hl, h1⟩ := toXlen h1
    simp only [Option.map_eq_some_iff] at h1
    obtain ⟨⟨n', ρ'⟩, e1, e2⟩ := h1
    cases e2
    have hvl : vs.length ≤ N.length := by rw [h2.len, hl]; exact hps
    have S0 := sim0 (N := N) h2 hvl
    refine hb cdv A outer s H E hr (passes_of rfl) _ _ _ _ H n' ρ' S0 e1 (fun cls d _ H => E cls d H) (takes_of rfl rfl rfl rfl) (fun σ' H' T' cls d _ S' st' w => q cls d H' ⟨fun b o e => S'.keep b o e fun ⟨i, z1, _⟩ => (nomatch z1), w.1, ?_⟩) _
    have f2 := w.2
    cases en : n'.fld with
    | none => rw [en] at f2; exact f2
    | some fx =>
      obtain ⟨f1, x⟩ := fx
      rw [en] at f2
      obtain ⟨dd, v, e1, e2, e3, e4⟩ := f2
      exact ⟨dd, v, e1, e2, e3.1, e4.mono fun b o z e => ⟨z.1, e⟩⟩
end
section
variable {cl : Str → Addr} {X : Cx} {x : Str} {fI : Addr} {k lv : Nat} {fd : FuncData} {ps : List Str} {f : Str} {e : Expr} {fs : Fa} {p pos pos' : Pos} {B newId initId : String} {bm : List Value}
def xraise (nm f : Str) (fs : Fa) : Fx := fun ρ => (fs ρ).bind fun z => (datA z.2 z.1).bind fun ds => (relA z.2 z.1).bind fun ρ2 => match ds with
  | [d] => some (⟨nm, some (f, d)⟩, ρ2)
  | _ => none
theorem dsx_raise (hc : X.calm = true) (Z : DX.Bas B newId initId bm) (T : DX.Own X.K (cl x) newId bm) (iC : PySem.W.findIn X.K (.ref (cl x)) "__init__" = some (some (.ref fI))) (tI : PySem.W.typeIn X.K (.ref fI) = some (.type "function"))
    (F1 : FnOk X.prog X.w X.K X.mg X.base CX0 k fI fd ps (DX.spI (cl x) f)) (hr : RoomG lv X.A) (hb : Binds X.K fd ps []) (hg : Gl X x) (hm : X.mg x = some (.ref (cl x))) (ha : DA X.nox [e] fs) (hlv : k + 1 ≤ lv := by decide)
    (hdb : (x == ("__debug__" : Str)) = false := by decide) (he : starEach [e] X.env = (false, eval e X.env) :: starEach [] X.env := by rfl) : DSx cl X (.Raise (some (.Call (.Name x p) [e] [] pos)) none pos') (xraise x f fs) := by
  intro P T0 σ ρ H n ρ' S hf W tk q Ds
  simp only [xraise, Option.bind_eq_some_iff] at hf
  obtain ⟨⟨rs, ρ1⟩, h1, ds, h2, ρ2, h3, h4⟩ := hf
  match ds, h2, h4 with
  | [d], h2, h4 =>
  cases h4
  refine PS.ws (ps_raise hc tk (DX.pmk_1 Z T iC tI F1 (hr.rm.mono hlv) hb hg hm paW hdb he)) (ha.up P T0 σ ρ H rs ρ1 S h1 _ fun vs H1 T1 hl A => ?_)
  match vs, hl with
  | [v], _ =>
  obtain ⟨S2, st2, kp2, r2⟩ := relA_spec A.sim A.val A.tg.1 (tx_not A S) h2 h3
  have S2T := S2.less A.tg.1
  refine ⟨v, rfl, fun dd hd => ?_⟩
  obtain ⟨S3, st3⟩ := S2T.allocT (o := .xd [(f, v)]) hd
  have no : ¬ Own σ ρ' dd := fun w => by
    obtain ⟨o', e'⟩ := own_dom S2T w
    rw [hd] at e'; cases e'
  have nt : ¬ T0 dd := fun w => by
    obtain ⟨⟨o', e'⟩, _⟩ := S2T.tn dd w
    rw [hd] at e'; cases e'
  cases r2 with
  | cons r1 _ => exact q σ _ T0 _ _ (fun _ h => h) S3 ((A.stp.trans st2).trans st3) ⟨rfl, dd, v, rfl, upd_same, ⟨.inr (h0_none S2T hd), no, nt⟩, r1.mono fun a o z e => ⟨z, by rw [upd_ne (ne_of_none e hd)]; exact e⟩⟩
end
end DL
set_option Elab.async false
set_option linter.all false
set_option maxRecDepth 100000
set_option maxHeartbeats 2000000
namespace PySem.W
open PySem PySem.Spec PySem.Calls PyProof.Rows
section
variable {M : Model} {K : Frag} {A : Around} {E : Value → Shared → Prop} {s : Shared}
theorem for_all {f : Value → PUnit → Sem (ForInStep PUnit)} : ∀ {l : List Value} {Q : PUnit → Shared → Prop}, (∀ c ∈ l, ∀ Q : ForInStep PUnit → Shared → Prop, Q (.yield ⟨⟩) s → wpAny M A (f c ⟨⟩) Q E s) → Q ⟨⟩ s → wpAny M A (forIn l PUnit.unit f) Q E s
  | [], Q, _, q => by rw [List.forIn_nil]; exact wpAny_pure q
  | c :: l, Q, h, q => by
    rw [List.forIn_cons]
    exact wpAny_bind (h c (by simp) _ (for_all (fun c hc => h c (by simp [hc])) q))
theorem for_any {cls : Value} {f : Value → Option Bool × Unit → Sem (ForInStep (Option Bool × Unit))} : ∀ {l : List Value} {b : Bool} {Q : Option Bool × Unit → Shared → Prop}, exmAny K cls l = some b →
    (∀ c z, c ∈ l → exmOne K cls c = some z → ∀ Q : ForInStep (Option Bool × Unit) → Shared → Prop, Q (if z then .done (some true, ()) else .yield (none, ())) s → wpAny M A (f c (none, ())) Q E s) →
    Q (if b then some true else none, ()) s → wpAny M A (forIn l (none, ()) f) Q E s
  | [], b, Q, e, _, q => by cases e; rw [List.forIn_nil]; exact wpAny_pure q
  | c :: l, b, Q, e, h, q => by
    obtain ⟨b1, d1, e1, e2, e3⟩ := exmAny_cons e
    rw [List.forIn_cons]
    refine wpAny_bind (h c b1 (by simp) e1 _ ?_)
    cases b1 with
    | true =>
      rw [e3] at q
      exact wpAny_pure q
    | false =>
      refine for_any e2 (fun c z hc => h c z (by simp [hc])) ?_
      rw [e3] at q
      exact q
theorem exm_mem {cls : Value} : ∀ {l : List Value} {b : Bool}, exmAny K cls l = some b → ∀ c ∈ l, ∃ z, exmOne K cls c = some z
  | [], _, _, c, hc => by simp at hc
  | c :: l, b, e, x, hx => by
    obtain ⟨b1, d1, e1, e2, e3⟩ := exmAny_cons e
    rcases List.mem_cons.mp hx with rfl | hx
    · exact ⟨b1, e1⟩
    · exact exm_mem e2 x hx
/-- an except clause of any number of classes -/
theorem exm_tups {cls : Value} {cs : List Value} {tp e : Addr} {b : Bool} {h : Heap} (X : K.In h) (LT : Looks M h (typeOf (.ref e)) cls) (hp : IsTup h tp cs.toArray) (hx : exmAny K cls cs = some b) :
    Looks M h (excMatches (.ref e) (.ref tp)) b := by
  intro A Q E s k₀ q
  obtain ⟨hh, g, dr, tk, os⟩ := s
  have k : ∀ b o, h.get? b = some o → hh.get? b = some o := k₀
  obtain ⟨o, ho, hc, n, hd⟩ := hp
  have L : Looks M h (typeOf (.ref tp)) (.type "tuple") := fun A Q E s k q => wpAny_typeOf_ref (k _ _ ho) (by rw [hc]; exact q)
  have LT0 : Looks M h (isInstance (.ref tp) (.type "tuple")) true := L.andThen (Looks.of_pure isSubtype_tuple_tuple)
  have LT := LT.keeps k
  have LT0 := LT0.keeps k
  have ho' := k _ _ ho
  unfold excMatches
  refine wpAny_bind (LT0.at ?_)
  dsimp only
  rw [if_pos rfl]
  first
    | refine wpAny_bind (wpAny_seqItems ho' hd ?_)
    | refine wpAny_bind (wpAny_bind (wpAny_seqItems ho' hd (wpAny_pure ?_)))
  dsimp only [Option.getD_some, Option.getD]
  refine wpAny_bind (wpAny_pure ?_)
  refine wpAny_bind (for_all (fun c hc Q' q' => ?_) ?_)
  · obtain ⟨z, ez⟩ := exm_mem hx c hc
    refine wpAny_bind (((exm_cls (M := M) X ez).1.keeps k).at ?_)
    exact wpAny_pure q'
  · refine wpAny_bind (LT.at (wpAny_bind (for_any hx (fun c z hc ez Q' q' => ?_) ?_)))
    · refine wpAny_bind (((exm_cls (M := M) X ez).2.keeps k).at ?_)
      cases z with
      | true => exact wpAny_pure q'
      | false => exact wpAny_pure q'
    · cases b with
      | true => exact wpAny_pure q
      | false => exact wpAny_pure q
end
end PySem.W
namespace DX
open PySem PySem.Spec PyProof.Rows L2
/-- the flight that is none stays none -/
theorem flight_none {M : Model} {A : Around} {E : Value → Shared → Prop} {s : Shared} {a T : Addr} {oe oT : Obj} {vs ts : Array Value} {Q : Unit → Shared → Prop} (he : s.heap.get? a = some oe) (hd : oe.data = .fields vs) (h1 : vs[1]? = some (.ref T)) (hT : s.heap.get? T = some oT) (hdT : oT.data = .fields ts) (h3 : ts[3]? = some .none)
    (h : ∀ h', (∀ b o, s.heap.get? b = some o → h'.get? b = some o) → Q () { s with heap := h' }) : wpAny M A (setFlight (.ref a) none) Q E s := by
  unfold setFlight
  refine wpAny_bind (wpAny_field he hd h1 ?_)
  rw [if_pos (show (Value.ref T != Value.none) = true from by simp)]
  refine wpAny_setField hT hdT (Array.getElem?_eq_some_iff.mp h3).1 (h _ fun b o e => ?_)
  by_cases hb : b = T
  · subst hb
    rw [hT] at e; cases e
    rw [Heap.get?_update_self _ hT (Obj.isFreed_of_fields (Obj.data_mapFields hdT _))]
    obtain ⟨c, dd, dt, sl⟩ := oT
    dsimp only at hdT
    subst hdT
    have : ts.setIfInBounds 3 Value.none = ts := by
      apply Array.ext_getElem?
      intro i
      by_cases hi : i = 3
      · subst hi; rw [Array.getElem?_setIfInBounds_self_of_lt (Array.getElem?_eq_some_iff.mp h3).1, h3]
      · rw [Array.getElem?_setIfInBounds_ne (Ne.symm hi)]
    show some (Obj.mapFields (fun z => z.setIfInBounds 3 Value.none) _) = _
    unfold Obj.mapFields
    simp only [this]
  · exact (Heap.get?_update_other _ _ (Ne.symm hb)).trans e
section
variable {X : Cx} {pins : List (Addr × Obj)} {σ : L2.St} {H : Hp} {s : Shared}
/-- an object that stands is tracked from now on -/
theorem track {a : Addr} {oe : Obj} {vs : Array Value} {φ : Heap → Prop} (I : Inv X pins σ H s) (ha : s.heap.get? a = some oe) (hd : oe.data = .fields vs) (na : H a = none) (n0 : X.s_0.heap.get? a = none) (nL : a ≠ X.env.locals) (np : ∀ p ∈ X.pn ++ pins, p.1 ≠ a)
    (hφ : φ s.heap) (st : ∀ h1 h2 : Heap, φ h1 → (∀ o, h1.get? a = some o → h2.get? a = some o) → φ h2) : Inv X pins σ (upd H a (.ext φ)) s := by
  have ne : ∀ {b : Addr} {o : HO}, H b = some o → b ≠ a := fun {b o} e z => by rw [z, na] at e; cases e
  have n00 : ∀ {b : Addr} {o : Obj}, X.s_0.heap.get? b = some o → b ≠ a := fun {b o} e z => by rw [z, n0] at e; cases e
  have nc : ∀ x c, X.env.cells.lookup x = some c → c ≠ a := fun x c e z => by
    obtain ⟨v, o, ho, hc⟩ := I.cell x c e
    rw [z, ha] at ho; cases ho; rw [hd] at hc; cases hc
  refine ⟨I.ok, I.os, I.bare, ⟨I.base.keep, I.base.slot, fun b o e n hx => by rw [upd_ne (n00 e)]; exact I.base.free b o e n hx, I.base.there, fun b xs e => by rw [upd_ne (ne (I.base.tups b xs e))]; exact I.base.tups b xs e,
    fun b o u e => by rw [upd_ne (ne (I.base.frzs b o u e))]; exact I.base.frzs b o u e, fun b ps e => by obtain ⟨m, z⟩ := I.base.tbls b ps e; exact ⟨m, by rw [upd_ne (ne z)]; exact z⟩⟩, I.loc, I.cell, by rw [upd_ne nL.symm]; exact I.free,
    fun x c e => by rw [upd_ne (nc x c e)]; exact I.freeC x c e, fun p hp => ?_, fun b o e => ?_, I.len⟩
  · obtain ⟨p1, p2, p3⟩ := I.pin p hp
    exact ⟨p1, by rw [upd_ne (np p hp)]; exact p2, p3⟩
  · by_cases hb : b = a
    · subst hb
      rw [upd_same] at e; cases e
      exact ⟨hφ, ⟨oe, ha⟩, st⟩
    · rw [upd_ne hb] at e
      exact (I.hok b o e).stay (fun c v _ q => q) (fun c hc => by rw [upd_ne (ne hc)]; exact hc) fun c xs hc => by rw [upd_ne (ne hc)]; exact hc
end
/-- what the clause wishes of the body's error -/
def wTry (K : PySem.W.Frag) (Cs : List Addr) (i j : Nat) (D : Ends) : WX := fun cls d σ H =>
  PySem.W.exmAny K cls (Cs.map Value.ref) = some true ∧ ∀ a p, H a = none → H p = none → a ≠ p → D.nx (((σ.set i (some (V.ref a))).set j (some (V.ref a))).set i none) (upd (upd H p (.tup (Cs.map V.ref))) a (DL.XO cls d a))
theorem vals_refs : ∀ {Cs : List Addr} {us : List Value}, Vals (Cs.map V.ref) us → us = Cs.map Value.ref
  | [], _, .nil => rfl
  | c :: Cs, _, .cons r t => by rw [vals_refs t]; cases (show _ = Value.ref c from r); rfl
section
variable {X : Cx} {n z : Str} {Cs : List Addr} {i j kk : Nat} {body : List Stmt} {cs : List Expr} {np zp tp ap pos pos' : Pos} {tb : WX → TS}
theorem ps_try_tup (hs : X.stack = X.env :: X.outer) (hf : X.env.frame = some X.env.locals) (hex : X.ex = []) (hN : X.N.Nodup) (hi : X.N[i]? = some n) (hj : X.N[j]? = some z) (hln : X.env.kindOf n = some .local) (hlz : X.env.kindOf z = some .local) (hvn : Vis X.env.scope n)
    (hcs : ∀ (a : Addr) (pn : List (Addr × Obj)), PA (X.suite a pn) cs fun σ H Q => Q (Cs.map V.ref) H) (hlen : Cs.length ≤ 1000)
    (hb : ∀ (W : WX) (pn : List (Addr × Obj)) (xe : Value → Shared → Prop), Takes (X.tr pn xe) W → PassesOwn (model X.prog X.w) X.A X.env xe → PSs (X.tr pn xe) body (tb W))
    (hsw : swapsWith (.Name n np) (some (.Name z zp)) ap.line X.env = pure false := by rfl) (hd : (n == ("__debug__" : Str)) = false := by decide) (hcd : (n == ("__classdict__" : Str)) = false := by decide) :
    PS X (.Try body [.ExceptHandler (some (.Tuple cs kk tp)) (some n) [.Assign [.Name z zp] (.Name n np) ap] pos'] [] [] pos) (fun D σ H => tb (wTry X.K Cs i j D) D σ H) := by
  refine ⟨fun pins s σ H D I h => ?_⟩
  have ok := I.ok
  have hfr : X.A.frames = some (X.env :: X.outer) := by rw [ok.frames, hs]
  refine wpAny_Try_except ?_
  refine wpAny_mono ((hb (wTry X.K Cs i j D) (X.pn ++ pins) (fun e s₁ => wpAny (model X.prog X.w) X.A (noteFrame e X.env) (fun _ s₂ => wpAny (model X.prog X.w) X.A (setFlight e none) (fun _ s₃ =>
    wpAny (model X.prog X.w) X.A (handleBy e X.env [.ExceptHandler (some (.Tuple cs kk tp)) (some n) [.Assign [.Name z zp] (.Name n np) ap] pos']) (SP X pins D) X.xe s₃) X.xe s₂) X.xe s₁) (fun u s' xx => ?_) PassesOwn.looking).run [] s σ H D (I.toTry _) h) (fun f s1 hsp => ?_) (fun e s1 he => he)
  · obtain ⟨a, B, sI, pins', σ', H', cls, d, rfl, J', nb, up, sky, na, os, ag, hb1, hyes⟩ := xx
    have J : Inv X pins σ' H' sI := J'.ofTry ok
    have sky' : Sky B (X.env :: X.outer) a (Zc cls d) X.env.locals s'.heap := by rw [← hs]; exact sky
    show wpAny (model X.prog X.w) X.A (noteFrame (.ref a) X.env) _ _ _
    refine Sky.land Zc.steady hfr hf sky' fun h3 fl3 up3 => ?_
    have J3 : Inv X pins σ' H' { s' with heap := h3 } := J.landed nb fl3.1 (up.trans up3) os ag
    obtain ⟨k1, k2, k3, oe, vs, T, oT, ts, he, hz, hdt, h1, hnT, hTe, hT, hdT, hr⟩ := id fl3
    have notFr : ∀ {b : Addr} {o : Obj} {us : Array Value}, h3.get? b = some o → o.data = .fields us → b ∉ frs (X.env :: X.outer) := fun {b o us} e dd hm => by
      obtain ⟨_, o', e', hnf⟩ := k3.mem hm
      rw [e] at e'; cases e'
      exact hnf _ dd
    have notL : ∀ {b : Addr}, b ∉ frs (X.env :: X.outer) → b ≠ X.env.locals ∧ b ∉ X.fs := fun {b} hm => ⟨fun z => hm (List.mem_filterMap.mpr ⟨X.env, List.mem_cons_self, by rw [hf, z]⟩), fun h => by
      obtain ⟨e, he, q⟩ := List.mem_filterMap.mp h
      exact hm (List.mem_filterMap.mpr ⟨e, List.mem_cons_of_mem _ he, q⟩)⟩
    have nfa := notFr he hdt
    have nfT := notFr hT hdT
    obtain ⟨nL, nF⟩ := notL nfa
    obtain ⟨nLT, nFT⟩ := notL nfT
    -- what was there ahead of the error is not it
    have old : ∀ {b : Addr} {o : Obj}, sI.heap.get? b = some o → b ∉ frs X.stack → B.get? b = some o := fun {b o} e h => nb b o e h
    have n0 : X.s_0.heap.get? a = none := by
      cases e : X.s_0.heap.get? a with
      | none => rfl
      | some o =>
        obtain ⟨o', e'⟩ := J.base.there a o e (by rw [hex]; exact fun z => nomatch z)
        have := old e' (by rw [hs]; exact nfa)
        rw [k2] at this; cases this
    have npin : ∀ p ∈ X.pn ++ pins, p.1 ≠ a := fun p hp z => by
      obtain ⟨p1, p2, p3, p4, _⟩ := J.pin p hp
      have := old p1 (by rw [z, hs]; exact nfa)
      rw [z, k2] at this; cases this
    have nHT : H' T = none := (J.inGround nb).gone hnT
    have S3 := (J3.suite he hdt na nL nF).pins_of (pins' := [(T, oT)]) fun p hp => by
      cases List.mem_singleton.mp hp
      exact ⟨hT, nHT, nLT, nFT, fun v z => by rw [hdT] at z; cases z⟩
    refine wpAny_handleBy_cons (codeAny_handlers_test ?_) (by intro q; cases q)
    refine wpAny_mono ((pe_tup (hcs a ((a, oe) :: (X.pn ++ pins)))).run [(T, oT)] _ σ' H' (fun v H2 => ∃ p, v = .ref p ∧ H' p = none ∧ H2 = upd H' p (.tup (Cs.map V.ref))) S3 ⟨by rw [List.length_map]; exact Nat.le_of_lt (small1000 hlen), fun p hp => ⟨p, rfl, hp, rfl⟩⟩) (fun c s1 hc => ?_) (fun _ _ x => False.elim x)
    obtain ⟨v, H2, I2, rv, p, rfl, hp, rfl⟩ := hc
    obtain rfl : c = Value.ref p := rv
    obtain ⟨_, its, rits, istup⟩ := (show ObjOk X.prog X.w _ s1.heap p (.tup (Cs.map V.ref)) from I2.hok p _ upd_same)
    obtain rfl := vals_refs rits
    have pa := I2.pin (a, oe) (List.mem_append_left _ List.mem_cons_self)
    have pT := I2.pin (T, oT) (List.mem_append_right _ (List.mem_singleton.mpr rfl))
    have LT : PySem.W.Looks (model X.prog X.w) s1.heap (typeOf (.ref a)) cls := fun A Q E s k q => wpAny_typeOf_ref (k _ _ pa.1) (by rw [hz.1]; exact q)
    refine (PySem.W.exm_tups (M := model X.prog X.w) I2.kIn LT istup hb1).here ?_
    show codeAny _ _ (.handlers _ _ _) _ _
    refine codeAny_handlers_suite_as ?_
    refine flight_none pa.1 hdt h1 pT.1 hdT hr fun h4 kp4 => ?_
    have I4 := I2.kept (t' := s1.toks) kp4
    refine store_ok (X := X.suite a ((a, oe) :: (X.pn ++ pins))) (v := .ref a) I4 hN hi (.inl hln) rfl (fun s5 I5 => ?_) (.inr hln)
    have hil : i < σ'.length := by rw [J3.len]; exact (List.getElem?_eq_some_iff.mp hi).1
    refine wpAny_mono ((pss_one (ps_set (X := X.suite a ((a, oe) :: (X.pn ++ pins))) hN hj (.inl hlz) (pe_var hi hvn hd hcd) hsw (.inr hlz))).run _ s5 _ _ { nx := fun σ6 H6 => σ6 = (σ'.set i (some (V.ref a))).set j (some (V.ref a)) ∧ H6 = upd H' p (.tup (Cs.map V.ref)), rt := fun _ _ => False } I5 ⟨.ref a, by rw [List.getElem?_set_self hil], rfl, rfl⟩) (fun f s6 hsp => ?_) (fun _ _ z => False.elim z)
    cases f with
    | next =>
      obtain ⟨σ6, H6, S6, e1, e2⟩ := hsp
      subst e1 e2
      have pa6 := S6.pin (a, oe) (List.mem_append_left _ List.mem_cons_self)
      have J6 : Inv X pins _ _ s6 := S6.unsuite ok
      have J7 : Inv X pins _ (upd (upd H' p (.tup (Cs.map V.ref))) a (DL.XO cls d a)) s6 := track J6 pa6.1 hdt pa6.2.1 n0 nL npin ⟨oe, vs, pa6.1, hz, hdt⟩ fun h1 h2 ⟨o, v, q1, q2, q3⟩ k => ⟨o, v, k _ q1, q2, q3⟩
      exact gone_ok J7 hN hi hln fun s7 J8 => ⟨_, _, J8, hyes a p na hp fun z => by rw [z, upd_same] at pa6; cases pa6.2.1⟩
    | brk => obtain ⟨_, _, _, z⟩ := hsp; exact z.elim
    | cont => obtain ⟨_, _, _, z⟩ := hsp; exact z.elim
    | ret u => obtain ⟨_, _, _, _, _, z⟩ := hsp; exact z.elim
  · cases f with
    | next =>
      obtain ⟨σ', H', J', q⟩ := hsp
      exact wpAny_execs_nil ⟨σ', H', J'.ofTry ok, q⟩
    | brk =>
      obtain ⟨σ', H', J', q⟩ := hsp
      exact ⟨σ', H', J'.ofTry ok, q⟩
    | cont =>
      obtain ⟨σ', H', J', q⟩ := hsp
      exact ⟨σ', H', J'.ofTry ok, q⟩
    | ret u =>
      obtain ⟨v, σ', H', J', r, q⟩ := hsp
      exact ⟨v, σ', H', J'.ofTry ok, r, q⟩
end
end DX
set_option Elab.async false
set_option linter.all false
set_option maxRecDepth 100000
set_option maxHeartbeats 1000000
namespace DL
open PySem PySem.Spec PyProof.Rows L2
/-- an error as data -/
def xD (cl : Str → Addr) (n : Xn) : D := .dict ((.none, .int (cl n.nm)) :: match n.fld with
  | none => []
  | some (f, x) => [(.str f, x)])
section
variable {cl : Str → Addr} {P : Pk} {T T' : Addr → Prop} {σ σ' : SS} {ρ ρ' : En} {H H' : Hp}
theorem Sim.catch {n : Xn} {cls : Value} {d : Option Addr} {i j : Nat} {a p : Addr} {Cs : List Addr} (S : Sim P T' σ' ρ' H') (st : Stp σ ρ H σ' ρ' H') (l : ∀ b, T b → T' b) (w : XV cl P T' σ' ρ' H' n cls d) (na : H' a = none) (np : H' p = none) (nap : a ≠ p) :
    Sim P T (((σ'.set i (some (V.ref a))).set j (some (V.ref a))).set i none) (((ρ'.set i (some (.sh, xD cl n))).set j (some (.sh, xD cl n))).set i none) (upd (upd H' p (.tup (Cs.map V.ref))) a (XO cls d a)) ∧
      Stp σ ρ H (((σ'.set i (some (V.ref a))).set j (some (V.ref a))).set i none) (((ρ'.set i (some (.sh, xD cl n))).set j (some (.sh, xD cl n))).set i none) (upd (upd H' p (.tup (Cs.map V.ref))) a (XO cls d a)) := by
  have S0 := S.less l
  obtain ⟨S1, st1⟩ := S0.allocT (o := .tup (Cs.map V.ref)) np
  have na1 : upd H' p (.tup (Cs.map V.ref)) a = none := by rw [upd_ne nap]; exact na
  obtain ⟨S2, st2⟩ := S1.allocT (o := XO cls d a) na1
  have nw : Av P T σ' ρ' a := by
    refine ⟨.inr (h0_none S0 na), fun w => ?_, fun w => ?_⟩
    · obtain ⟨o', e'⟩ := own_dom S0 w
      rw [na] at e'; cases e'
    · obtain ⟨⟨o', e'⟩, _⟩ := S0.tn a w
      rw [na] at e'; cases e'
  have up : ∀ b o, H' b = some o → upd (upd H' p (.tup (Cs.map V.ref))) a (XO cls d a) b = some o := fun b o e => by rw [upd_ne (ne_of_none e na), upd_ne (ne_of_none e np)]; exact e
  have mo : ∀ b o, Av P T' σ' ρ' b → H' b = some o → Av P T σ' ρ' b ∧ upd (upd H' p (.tup (Cs.map V.ref))) a (XO cls d a) b = some o := fun b o ⟨h1, h2, h3⟩ e => ⟨⟨h1, h2, fun q => h3 (l b q)⟩, up b o e⟩
  obtain ⟨rfl, wf⟩ := w
  have r : Rep (Av P T σ' ρ') (upd (upd H' p (.tup (Cs.map V.ref))) a (XO (.ref (cl n.nm)) d a)) (V.ref a) (xD cl n) := by
    unfold xD
    cases en : n.fld with
    | none =>
      rw [en] at wf
      obtain rfl : d = none := wf
      exact .exc (ps := []) nw upd_same (fun _ => rfl) (fun dd e => nomatch e) .nil
    | some fx =>
      obtain ⟨f, x⟩ := fx
      rw [en] at wf
      obtain ⟨dd, v, e1, e2, e3, e4⟩ := wf
      subst e1
      exact .exc (ps := [(.str f, v)]) nw upd_same (fun e => nomatch e) (fun d' e => by cases e; exact ⟨(mo dd _ e3 e2).1, f, v, rfl, up _ _ e2⟩) (.cons (e4.mono mo) .nil)
  obtain ⟨S3, st3⟩ := S2.setSh (i := i) r
  have r3 : Rep (Av P T (σ'.set i (some (V.ref a))) (ρ'.set i (some (.sh, xD cl n)))) (upd (upd H' p (.tup (Cs.map V.ref))) a (XO (.ref (cl n.nm)) d a)) (V.ref a) (xD cl n) := r.mono (av_step st3 .refl)
  obtain ⟨S4, st4⟩ := S3.setSh (i := j) r3
  obtain ⟨S5, ow⟩ := S4.drop (i := i) (x := none)
  exact ⟨S5, ((((st.trans st1).trans st2).trans st3).trans st4).trans ⟨fun _ _ h _ => h, fun b q => .inl (ow b q), fun _ o h => ⟨o, h⟩⟩⟩
end
/-- names of classes -/
inductive NmL (X : Cx) : List Expr → List V → Prop
  | nil : NmL X [] []
  | cons {e : Expr} {v : V} {es : List Expr} {vs : List V} (h : PE X e (tC v)) (t : NmL X es vs) (hs : starEach (e :: es) X.env = (false, eval e X.env) :: starEach es X.env := by rfl) : NmL X (e :: es) (v :: vs)
theorem NmL.pa {X : Cx} {es : List Expr} {vs : List V} (h : NmL X es vs) : PA X es fun σ H Q => Q vs H := by
  induction h with
  | nil => exact pa_nil
  | cons h t hs ih => exact pa_cons h ih hs
/-- try: f, or an error of x, one of the classes nms, kept in the slot j -/
def ftry (cl : Str → Addr) (nms : List Str) (i j : Nat) (f : Fst) (x : Fx) : Fst := fun ρ => match x ρ with
  | some z => if z.1.nm ∈ nms then some (.nx (((z.2.set i (some (.sh, xD cl z.1))).set j (some (.sh, xD cl z.1))).set i none)) else none
  | none => f ρ
section
variable {cl : Str → Addr} {X : Cx} {n z : Str} {Cs : List Addr} {nms : List Str} {i j kk : Nat} {body : List Stmt} {cs : List Expr} {np zp tp ap pos pos' : Pos} {f : Fst} {x : Fx}
theorem ds_try (hs : X.stack = X.env :: X.outer) (hf : X.env.frame = some X.env.locals) (hex : X.ex = []) (hN : X.N.Nodup) (hb : ∀ (pn : List (Addr × Obj)) (xe : Value → Shared → Prop), DSs (X.tr pn xe).nox body f) (hx : ∀ (pn : List (Addr × Obj)) (xe : Value → Shared → Prop), PassesOwn (model X.prog X.w) X.A X.env xe → DSsx cl (X.tr pn xe) body x)
    (hcs : ∀ (a : Addr) (pn : List (Addr × Obj)), NmL (X.suite a pn) cs (Cs.map V.ref)) (hm : ∀ nm ∈ nms, PySem.W.exmAny X.K (.ref (cl nm)) (Cs.map Value.ref) = some true)
    (hi : X.N[i]? = some n := by rfl) (hj : X.N[j]? = some z := by rfl) (hln : X.env.kindOf n = some .local := by rfl) (hlz : X.env.kindOf z = some .local := by rfl) (hvn : Vis X.env.scope n := by exact Or.inl rfl) (hlen : Cs.length ≤ 1000 := by simp)
    (hsw : swapsWith (.Name n np) (some (.Name z zp)) ap.line X.env = pure false := by rfl) (hd : (n == ("__debug__" : Str)) = false := by decide) (hcd : (n == ("__classdict__" : Str)) = false := by decide) :
    DS X (.Try body [.ExceptHandler (some (.Tuple cs kk tp)) (some n) [.Assign [.Name z zp] (.Name n np) ap] pos'] [] [] pos) (ftry cl nms i j f x) := fun P T σ ρ H o S hf' Ds q => by
  refine PS.ws (DX.ps_try_tup (tb := fun W D σ H => ∀ (pn : List (Addr × Obj)) (xe : Value → Shared → Prop), Takes (X.tr pn xe) W → PassesOwn (model X.prog X.w) X.A X.env xe → WSs (X.tr pn xe) body D σ H) hs hf hex hN hi hj hln hlz hvn (fun a pn => (hcs a pn).pa) hlen
    (fun W pn xe tk po => ⟨fun pins s σ H D I h => h pn xe tk po pins s I⟩) hsw hd hcd) ?_
  intro pn xe tk po
  unfold ftry at hf'
  cases e1 : x ρ with
  | none =>
    rw [e1] at hf'
    exact (hb pn xe).up P T σ ρ H o S hf' Ds q
  | some zz =>
    obtain ⟨n', ρ'⟩ := zz
    rw [e1] at hf'
    have hf' : (if n'.nm ∈ nms then some (Out.nx (((ρ'.set i (some (.sh, xD cl n'))).set j (some (.sh, xD cl n'))).set i none)) else none) = some o := hf'
    by_cases hn : n'.nm ∈ nms
    · rw [if_pos hn] at hf'
      cases hf'
      refine hx pn xe po P T σ ρ H n' ρ' S e1 _ tk (fun σ' H' T' cls d l S' st' w => ?_) Ds
      refine ⟨by rw [w.1]; exact hm _ hn, fun a p na np nap => ?_⟩
      obtain ⟨S2, st2⟩ := Sim.catch (i := i) (j := j) (Cs := Cs) S' st' l w na np nap
      exact q _ _ S2 st2
    · rw [if_neg hn] at hf'; cases hf'
end
/-- what K says of an error class -/
structure ClsX (K : PySem.W.Frag) (C : Addr) : Prop where
  ex : L2.ExcC K C
  xf : L2.XfC K C
def gIsc (cl : Str → Addr) (ys ns : List Str) : D → Option OutV := fun d => match d with
  | .none => some (.it (.bool false))
  | .dict ((.none, .int c) :: _) => if ys.any (fun y => decide (((cl y : Nat) : Int) = c)) then some (.it (.bool true)) else if ns.any (fun y => decide (((cl y : Nat) : Int) = c)) then some (.it (.bool false)) else none
  | _ => none
def gAtx (cl : Str → Addr) (ys : List Str) (f : Str) : D → Option OutV := fun d => match d with
  | .dict [(.none, .int c), (.str g, x)] => if g = f ∧ ys.any (fun y => decide (((cl y : Nat) : Int) = c)) = true then some (.it x) else none
  | _ => none
section
variable {S : Addr → Prop} {H : Hp} {v : V}
theorem top_exc {c : Int} {es : List (D × D)} (h : Top S H v (.dict ((.none, .int c) :: es))) : ∃ (a C : Addr) (d : Option Addr) (ps : List (D × V)), v = .ref a ∧ c = C ∧ H a = some (XO (.ref C) d a) ∧ (d = none → ps = []) ∧ (∀ dd, d = some dd → S dd ∧ ∃ f v, ps = [(.str f, v)] ∧ H dd = some (.xd [(f, v)])) ∧ RepK S H ps es := by
  obtain ⟨a, rfl, _, h⟩ := (show ∃ a, v = .ref a ∧ (isX ((.none, .int c) :: es) = false → ∃ o ps, RdK H a o ∧ dOf o = some ps ∧ RepK S H ps ((.none, .int c) :: es)) ∧ (isX ((.none, .int c) :: es) = true → isOb (.dict ((.none, .int c) :: es)) = false → Rep S H (.ref a) (.dict ((.none, .int c) :: es))) from h)
  have r := h rfl rfl
  generalize hz : (PyData.none, PyData.int c) :: es = zs at r
  cases r with
  | dct h1 h2 h3 h4 =>
    have := dOf_nx h3 h4
    rw [← hz] at this; cases this
  | exc h1 h2 h3 h4 h5 =>
    cases hz
    exact ⟨_, _, _, _, rfl, rfl, h2, h3, h4, h5⟩
  | set h1 h2 h3 h4 => cases hz
  | ins => cases hz
  | opq => cases hz
end
section
variable {X : Cx} {pins : List (Addr × Obj)} {σ : L2.St} {H : Hp} {s : Shared}
theorem exc_inst {a C : Addr} {d : Option Addr} (I : Inv X pins σ H s) (ha : H a = some (XO (.ref C) d a)) (hd : ∀ dd, d = some dd → ∃ fs, H dd = some (.xd fs)) : ∃ ox od, PySem.W.InstAt s.heap a ox C od ∧ (∀ dd, d = some dd → ∃ u, od = some u ∧ s.heap.get? dd = some u) := by
  obtain ⟨⟨oe, vs, h1, h2, h3⟩, _, _⟩ := (show ObjOk X.prog X.w H s.heap a (.ext fun h => ∃ (oe : Obj) (vs : Array Value), h.get? a = some oe ∧ Zc (.ref C) d oe ∧ oe.data = .fields vs) from I.hok a _ ha)
  have nc : PySem.W.notCls oe = true := by unfold PySem.W.notCls; rw [h3] <;> rfl
  cases d with
  | none => exact ⟨oe, none, ⟨h1, h2.1, nc, by rw [h2.2]; trivial⟩, fun dd e => nomatch e⟩
  | some dd =>
    obtain ⟨fs, hx⟩ := hd dd rfl
    obtain ⟨mA, ⟨o, es, ep, ho, hr⟩, _⟩ := (show ObjOk X.prog X.w H s.heap dd (.xd fs) from I.hok dd _ hx)
    exact ⟨oe, some o, ⟨h1, h2.1, nc, by rw [h2.2]; exact ho⟩, fun d' e => by cases e; exact ⟨o, rfl, ho⟩⟩
/-- isinstance of an error -/
def rIsx (K : PySem.W.Frag) : List V → Hp → VK → Prop := fun xs H Q => ∃ (a C : Addr) (d : Option Addr) (c : V) (u : Value) (b : Bool), xs = [.ref a, c] ∧ H a = some (XO (.ref C) d a) ∧ (∀ dd, d = some dd → ∃ fs, H dd = some (.xd fs)) ∧ L2.ExcC K C ∧ ClsV c u ∧ PySem.W.kitOne K (.ref C) u = some b ∧ Q (.bl b) H
theorem call_isx : CallR X (.builtin "isinstance") (rIsx X.K) := by
  intro pins s σ H xs us Q I r ⟨a, C, d, c, u, b, e0, ha, hd, E, k, e, q⟩
  subst e0
  obtain ⟨u1, u2, rfl, r1, r2⟩ := vals2 r
  obtain rfl := k.eq r2
  obtain rfl : u1 = Value.ref a := r1
  obtain ⟨ox, od, J, _⟩ := exc_inst I ha hd
  obtain ⟨cd, hc, _⟩ := PySem.W.any_some E.hd
  exact PySem.W.kia_one (PySem.W.kitx_exc (od := od) (ox := ox) (by rw [hc]; rfl) E.hg E.hk E.hs E.ha E.hn E.ht E.hm) I.kIn J e (fun z => nomatch z) fun tk => ⟨.bl b, H, I.tok tk, rfl, q⟩
def rIsxT (K : PySem.W.Frag) : List V → Hp → VK → Prop := fun xs H Q => ∃ (a C tp : Addr) (d : Option Addr) (cs : List V) (us : List Value) (b : Bool), xs = [.ref a, .ref tp] ∧ H a = some (XO (.ref C) d a) ∧ (∀ dd, d = some dd → ∃ fs, H dd = some (.xd fs)) ∧ L2.ExcC K C ∧ H tp = some (.tup cs) ∧ Paired ClsV cs us ∧ PySem.W.kitAny K (.ref C) us = some b ∧ Q (.bl b) H
theorem call_isxT : CallR X (.builtin "isinstance") (rIsxT X.K) := by
  intro pins s σ H xs us Q I r ⟨a, C, tp, d, cs, ws, b, e0, ha, hd, E, hT, k, e, q⟩
  subst e0
  obtain ⟨u1, u2, rfl, r1, r2⟩ := vals2 r
  obtain rfl : u2 = Value.ref tp := r2
  obtain rfl : u1 = Value.ref a := r1
  obtain ⟨ox, od, J, _⟩ := exc_inst I ha hd
  obtain ⟨cd, hc, _⟩ := PySem.W.any_some E.hd
  obtain ⟨_, its, rv, o, h1, h2, n, h3⟩ := (show ObjOk X.prog X.w H s.heap tp (.tup cs) from I.hok tp _ hT)
  obtain rfl := ClsV.all k rv
  obtain ⟨oc, oo, dt, sl⟩ := o
  simp only at h2 h3
  subst h2 h3
  exact PySem.W.kia_tup (PySem.W.kitx_exc (od := od) (ox := ox) (by rw [hc]; rfl) E.hg E.hk E.hs E.ha E.hn E.ht E.hm) I.kIn J h1 e (fun z => nomatch z) fun tk => ⟨.bl b, H, I.tok tk, rfl, q⟩
theorem callR_or {f : Value} {r1 r2 : List V → Hp → VK → Prop} (h1 : CallR X f r1) (h2 : CallR X f r2) : CallR X f fun xs H Q => r1 xs H Q ∨ r2 xs H Q := fun pins s σ H xs us Q I r h => h.elim (h1 pins s σ H xs us Q I r) (h2 pins s σ H xs us Q I r)
end
section
variable {cl : Str → Addr} {X : Cx} {e : Expr} {fe : Fe} {ys ns : List Str} {t : Str} {p p2 pos : Pos} {c : V} {u : Value}
theorem isc_spec {S : Addr → Prop} {H : Hp} {x : V} {dx : D} {o : OutV} (hx : Top S H x dx) (h : gIsc cl ys ns dx = some o) :
    (x = .non ∧ o = .it (.bool false)) ∨ ∃ (a : Addr) (y : Str) (d : Option Addr) (b : Bool), x = .ref a ∧ H a = some (XO (.ref (cl y)) d a) ∧ (∀ dd, d = some dd → ∃ fs, H dd = some (.xd fs)) ∧ ((b = true ∧ y ∈ ys) ∨ (b = false ∧ y ∈ ns)) ∧ o = .it (.bool b) := by
  unfold gIsc at h
  split at h
  · cases h; exact .inl ⟨top_none hx, rfl⟩
  · rename_i c es
    obtain ⟨a, C, d, ps, rfl, rfl, h1, h2, h3, h4⟩ := top_exc hx
    have hd : ∀ dd, d = some dd → ∃ fs, H dd = some (.xd fs) := fun dd e => by
      obtain ⟨_, f, v, _, z⟩ := h3 dd e
      exact ⟨_, z⟩
    split at h
    · rename_i hy
      cases h
      obtain ⟨y, y1, y2⟩ := List.any_eq_true.mp hy
      have : cl y = C := Int.ofNat_inj.mp (of_decide_eq_true y2)
      subst this
      exact .inr ⟨a, y, d, true, rfl, h1, hd, .inl ⟨rfl, y1⟩, rfl⟩
    · split at h
      · rename_i hy
        cases h
        obtain ⟨y, y1, y2⟩ := List.any_eq_true.mp hy
        have : cl y = C := Int.ofNat_inj.mp (of_decide_eq_true y2)
        subst this
        exact .inr ⟨a, y, d, false, rfl, h1, hd, .inr ⟨rfl, y1⟩, rfl⟩
      · cases h
  · cases h
/-- isinstance(e, C) -/
theorem de_isx (hg : Gl X "isinstance") (hm : X.mg "isinstance" = none) (he : DE X e fe) (hc : PE X (.Name t p2) (tC c)) (hu : ClsV c u) (h0 : PySem.W.kitOne X.K (.type "NoneType") u = some false)
    (hy : ∀ y ∈ ys, L2.ExcC X.K (cl y) ∧ PySem.W.kitOne X.K (.ref (cl y)) u = some true) (hn : ∀ y ∈ ns, L2.ExcC X.K (cl y) ∧ PySem.W.kitOne X.K (.ref (cl y)) u = some false)
    (hv : bootBuiltins "isinstance" = some (.builtin "isinstance") := by decide +kernel)
    (hs : starEach [e, .Name t p2] X.env = (false, eval e X.env) :: starEach [.Name t p2] X.env := by rfl) (hs2 : starEach [.Name t p2] X.env = (false, eval (.Name t p2) X.env) :: starEach [] X.env := by rfl) (hpl : (backTo pos (starEach [.Name t p2] X.env)).any (·.1) = false := by rfl) :
    DE X (.Call (.Name "isinstance" p) [e, .Name t p2] [] pos) (fop1 (gIsc cl ys ns) fe) := by
  intro P T σ ρ H rv ρ' S hf Q q
  refine PE.we (pe_callB (callR_or call_isi call_isx) hg hm hv (pa_cons peW (pa_cons hc pa_nil hs2) hs) (he := hs) (hpl := hpl)) ?_
  refine op1_core (r := fun x H1 Q => rIsi X.K [x, c] H1 Q ∨ rIsx X.K [x, c] H1 Q) he (fun S H x dx o hx h => ?_) S hf q
  rcases isc_spec hx h with ⟨rfl, rfl⟩ | ⟨a, y, d, b, rfl, h1, h2, h3, rfl⟩
  · exact Does.bl fun Q q => .inl ⟨.non, c, _, u, _, rfl, hu, .base .non, h0, q⟩
  · refine Does.bl fun Q q => .inr ⟨a, cl y, d, c, u, b, rfl, h1, h2, ?_, hu, ?_, q⟩
    · rcases h3 with ⟨_, z⟩ | ⟨_, z⟩
      · exact (hy y z).1
      · exact (hn y z).1
    · rcases h3 with ⟨rfl, z⟩ | ⟨rfl, z⟩
      · exact (hy y z).2
      · exact (hn y z).2
/-- isinstance(e, (A, B, ..)) -/
theorem de_isxT {cs : List Expr} {cvs : List V} {us : List Value} {kk : Nat} (hg : Gl X "isinstance") (hm : X.mg "isinstance" = none) (he : DE X e fe) (hc0 : NmL X cs cvs) (hu : Paired ClsV cvs us) (h0 : PySem.W.kitAny X.K (.type "NoneType") us = some false)
    (hy : ∀ y ∈ ys, L2.ExcC X.K (cl y) ∧ PySem.W.kitAny X.K (.ref (cl y)) us = some true) (hn : ∀ y ∈ ns, L2.ExcC X.K (cl y) ∧ PySem.W.kitAny X.K (.ref (cl y)) us = some false) (hl : cvs.length ≤ 1000 := by simp)
    (hv : bootBuiltins "isinstance" = some (.builtin "isinstance") := by decide +kernel)
    (hs : starEach [e, .Tuple cs kk p2] X.env = (false, eval e X.env) :: starEach [.Tuple cs kk p2] X.env := by rfl) (hs2 : starEach [.Tuple cs kk p2] X.env = (false, eval (.Tuple cs kk p2) X.env) :: starEach [] X.env := by rfl) (hpl : (backTo pos (starEach [.Tuple cs kk p2] X.env)).any (·.1) = false := by rfl) :
    DE X (.Call (.Name "isinstance" p) [e, .Tuple cs kk p2] [] pos) (fop1 (gIsc cl ys ns) fe) := by
  intro P T σ ρ H rv ρ' S hf Q q
  have hc := hc0.pa
  refine PE.we (pe_callB (callR_or call_isiT call_isxT) hg hm hv (pa_cons peW (pa_cons (pe_tup hc) pa_nil hs2) hs) (he := hs) (hpl := hpl)) ?_
  simp only [fop1, Option.bind_eq_some_iff, Option.map_eq_some_iff] at hf
  obtain ⟨⟨ra, ρ1⟩, h1, da, h3, o, h5, h6⟩ := hf
  cases h6
  refine he P T σ ρ H ra ρ1 S h1 _ fun v H1 T1 A1 => ⟨Nat.le_of_lt (small1000 hl), fun tp hp => ?_⟩
  obtain ⟨S2, st2⟩ := A1.sim.allocT (o := .tup cvs) hp
  have V2 := A1.val.step A1.sim st2 .refl .refl
  have S3 : Sim P T σ ρ1 (upd H1 tp (.tup cvs)) := S2.less fun b h => A1.tx.tg.1 b h
  rcases isc_spec (V2.top S2 h3) h5 with ⟨rfl, rfl⟩ | ⟨a, y, d, b, rfl, k1, k2, k3, rfl⟩
  · exact .inl ⟨.non, tp, cvs, _, us, false, rfl, upd_same, hu, .base .non, h0, q _ _ T (aft_sh S3 (A1.stp.trans st2) A1.kp .refl (.bl _))⟩
  · refine .inr ⟨a, cl y, tp, d, cvs, us, b, rfl, k1, k2, ?_, upd_same, hu, ?_, q _ _ T (aft_sh S3 (A1.stp.trans st2) A1.kp .refl (.bl _))⟩
    · rcases k3 with ⟨_, z⟩ | ⟨_, z⟩
      · exact (hy y z).1
      · exact (hn y z).1
    · rcases k3 with ⟨rfl, z⟩ | ⟨rfl, z⟩
      · exact (hy y z).2
      · exact (hn y z).2
/-- e.f -/
theorem de_atx {f : Str} (he : DE X e fe) (hy : ∀ y ∈ ys, L2.XfC X.K (cl y) ∧ PySem.W.findIn X.K (.ref (cl y)) f = some none) (hb : attributeBase e f X.env (eval e X.env) = eval e X.env := by rfl) : DE X (.Attribute e f pos) (fop1 (gAtx cl ys f) fe) := by
  intro P T σ ρ H rv ρ' S hf Q q
  have pe : PE X (.Attribute e f pos) (fun σ H Q => WE X e σ H fun x H1 => ∃ (a dd : Addr) (y : Str) (v : V), x = .ref a ∧ y ∈ ys ∧ H1 a = some (XO (.ref (cl y)) (some dd) a) ∧ H1 dd = some (.xd [(f, v)]) ∧ Q v H1) := by
    refine ⟨fun pins s σ H Q I h => ?_⟩
    refine attr_of hb (thn (h pins s I) fun w s1 hh => ?_)
    obtain ⟨x, H1, I1, rx, a, dd, y, v, rfl, yy, ha, hd, q⟩ := hh
    obtain rfl : w = Value.ref a := rx
    obtain ⟨T, hno⟩ := hy y yy
    obtain ⟨ox, od, J, hod⟩ := exc_inst I1 ha fun d' e => by cases e; exact ⟨_, hd⟩
    obtain ⟨o, rfl, ho⟩ := hod dd rfl
    obtain ⟨mA, hns, hr⟩ := (show ObjOk X.prog X.w H1 s1.heap dd (.xd [(f, v)]) from I1.hok dd _ hd)
    obtain ⟨od', ho', hl⟩ := lookIn_ns hns
    rw [ho] at ho'; cases ho'
    have l : ([(f, v)] : List (Str × V)).lookup f = some v := by simp [List.lookup]
    obtain ⟨z, hz, rz⟩ := RelO.some_of (v := v) (o := mA f) (by rw [← l]; exact hr f)
    exact HandSPX.exc_get I1.kIn J T.ga T.gg T.exC (PySem.W.findObj_own T.hdC hno rfl (by rw [hl, hz])) (handed_of rz) ⟨v, H1, I1.tok _, rz, q⟩
  refine PE.we pe ?_
  refine op1_core (r := fun x H1 Q => ∃ (a dd : Addr) (y : Str) (v : V), x = .ref a ∧ y ∈ ys ∧ H1 a = some (XO (.ref (cl y)) (some dd) a) ∧ H1 dd = some (.xd [(f, v)]) ∧ Q v H1) he (fun S H x dx o hx h => ?_) S hf q
  unfold gAtx at h
  split at h
  · rename_i c g dv
    split at h
    · rename_i hc
      cases h
      obtain ⟨rfl, hc⟩ := hc
      obtain ⟨y, y1, y2⟩ := List.any_eq_true.mp hc
      obtain ⟨a, C, d, ps, rfl, rfl, k1, k2, k3, k4⟩ := top_exc hx
      have : cl y = C := Int.ofNat_inj.mp (of_decide_eq_true y2)
      subst this
      cases d with
      | none =>
        have := k2 rfl
        subst this
        cases k4
      | some dd =>
        obtain ⟨z1, f', v, z2, z3⟩ := k3 dd rfl
        subst z2
        generalize hq : (PyData.str g, dv) = pp at k4
        cases k4 with
        | cons r1 r2 =>
          cases hq
          exact ⟨v, r1, fun Q q => ⟨a, dd, y, v, rfl, y1, k1, z3, q⟩⟩
    · cases h
  · cases h
end
end DL
set_option Elab.async false
set_option linter.all false
set_option maxRecDepth 100000
set_option maxHeartbeats 1000000
namespace DL
open PySem PySem.Spec PyProof.Rows L2
def ownB (K : PySem.W.Frag) (C : Addr) (bm : List Value) (newId : String) : Bool := match K.lookup C with
  | some ⟨.type "type", _, .cls cd, sl⟩ => (match cd.mro, sl.toList with
    | .ref C' :: tl, [_, _, _, _, some (.builtin n), _] => (C' == C && n == newId) && ((!cd.hasDel && cd.hasDict) && PySem.W.excTail bm tl)
    | _, _ => false)
  | _ => false
theorem ownB_ok {K : PySem.W.Frag} {C : Addr} {bm : List Value} {newId : String} (h : ownB K C bm newId = true) :
    ∃ nm q N bs tl sn sub ab col dd k0 k1 k2 k3 k5, K.lookup C = some (excClassObj nm q C N bs tl true sn sub ab col dd k0 k1 k2 k3 k5 newId) ∧ PySem.W.excTail bm tl = true := by
  unfold ownB at h
  split at h
  · rename_i dd cd sl ho
    split at h
    · rename_i C' tl k0 k1 k2 k3 n k5 hm hs
      simp only [Bool.and_eq_true, beq_iff_eq, Bool.not_eq_true'] at h
      obtain ⟨⟨rfl, rfl⟩, ⟨hdel, hdct⟩, ht⟩ := h
      obtain ⟨nm, bs, mro, ns, qn, hd, sn, sub, ab, col, del⟩ := cd
      dsimp only at hm hdel hdct
      subst hm hdel hdct
      obtain ⟨l⟩ := sl
      simp only at hs
      subst hs
      exact ⟨nm, qn, ns, bs, tl, sn, sub, ab, col, dd, k0, k1, k2, k3, k5, ho, ht⟩
    · cases h
  · cases h
/-- all that is asked of the written part about a class C whose __init__ is at i -/
def clsB (K : PySem.W.Frag) (C : Addr) (bm : List Value) (newId : String) : Bool :=
  ownB K C bm newId && decide (PySem.W.findIn K (.ref C) "__setattr__" = some (some (.builtin "object.__setattr__"))) && decide (PySem.W.subIn K (.ref C) (.type "BaseException") = some true) && decide (PySem.W.typeIn K (.ref C) = some (.type "type")) && PySem.W.keepIn K (.ref C) &&
    xfB K C && decide (PySem.W.findIn K (.ref C) "__class__" = some (some (.builtin "object.__class__"))) && decide (PySem.W.specialIn K (.builtin "object.__class__") "__get__" = some (some (.builtin "getset_descriptor.__get__"))) && decide (PySem.W.takesIn K (.builtin "object.__class__") = some true) && decide (PySem.W.mroIn K C (.type "object") = some true)
theorem clsB_ok {K : PySem.W.Frag} {C : Addr} {bm : List Value} {newId : String} (h : clsB K C bm newId = true) : DX.Own K C newId bm ∧ ClsX K C := by
  unfold clsB at h
  simp only [Bool.and_eq_true, decide_eq_true_eq] at h
  obtain ⟨⟨⟨⟨⟨⟨⟨⟨⟨h1, h2⟩, h3⟩, h4⟩, h5⟩, h6⟩, h7⟩, h8⟩, h9⟩, h10⟩ := h
  have x := xfB_ok h6
  exact ⟨⟨ownB_ok h1, h2, h3, h4, h5⟩, ⟨x.ga, x.gg, h3, x.hdC, h7, h8, h9, h10⟩, x⟩
section
variable (P : Program) (w : World) (K : PySem.W.Frag) (mg : Str → Option Value) (base : Heap) (cl : Str → Addr)
structure Kl1 (x f : Str) : Prop where
  mk1 : ∃ (B newId initId : String) (bm : List Value) (fI : Addr) (fd : FuncData) (ps : List Str), DX.Bas B newId initId bm ∧ DX.Own K (cl x) newId bm ∧ PySem.W.findIn K (.ref (cl x)) "__init__" = some (some (.ref fI)) ∧ PySem.W.typeIn K (.ref fI) = some (.type "function") ∧
    FnOk P w K mg base CX0 1 fI fd ps (DX.spI (cl x) f) ∧ Binds K fd ps []
  mg : mg x = some (.ref (cl x))
  cx : ClsX K (cl x)
  no : PySem.W.findIn K (.ref (cl x)) f = some none
structure Kl0 (x : Str) : Prop where
  mk1 : ∃ (B newId initId : String) (bm : List Value) (fI : Addr) (fd : FuncData) (ps : List Str), DX.Bas B newId initId bm ∧ DX.Own K (cl x) newId bm ∧ PySem.W.findIn K (.ref (cl x)) "__init__" = some (some (.ref fI)) ∧ PySem.W.typeIn K (.ref fI) = some (.type "function") ∧
    FnOk P w K mg base CX0 1 fI fd ps (DX.spI0 (cl x)) ∧ Binds K fd ps []
  mg : mg x = some (.ref (cl x))
  cx : ClsX K (cl x)
end
section
variable {cl : Str → Addr} {X : Cx} {x : Str} {lv : Nat} {f : Str} {e : Expr} {fs : Fa} {p pos pos' : Pos}
theorem dsx_raise1 (hc : X.calm = true) (k : Kl1 X.prog X.w X.K X.mg X.base cl x f) (hr : RoomG lv X.A) (hg : Gl X x) (ha : DA X.nox [e] fs) (hlv : 2 ≤ lv := by decide)
    (hdb : (x == ("__debug__" : Str)) = false := by decide) (he : starEach [e] X.env = (false, eval e X.env) :: starEach [] X.env := by rfl) : DSx cl X (.Raise (some (.Call (.Name x p) [e] [] pos)) none pos') (xraise x f fs) := by
  obtain ⟨B, newId, initId, bm, fI, fd, ps, Z, T, iC, tI, F1, hb⟩ := k.mk1
  exact dsx_raise hc Z T iC tI F1 hr hb hg k.mg ha hlv hdb he
end
/-- the classes' addresses are apart -/
def CInj (nms : List Str) (cl : Str → Addr) : Prop := ∀ a ∈ nms, ∀ b ∈ nms, cl a = cl b → a = b
def clOf (l : List (Str × Addr)) : Str → Addr := fun s => (l.lookup s).getD 0
theorem clOf_inj {ns : List Str} {cs : List Addr} (hl : ns.length = cs.length) (h2 : decide cs.Nodup = true) : CInj ns (clOf (ns.zip cs)) := by
  obtain ⟨l, hz⟩ : ∃ l, l = ns.zip cs := ⟨_, rfl⟩
  have z1 : l.map (·.1) = ns := by rw [hz]; exact List.map_fst_zip (by omega)
  have z2 : l.map (·.2) = cs := by rw [hz]; exact List.map_snd_zip (by omega)
  rw [← hz]
  rw [← z1]
  rw [← z2] at h2
  have g : ∀ {l : List (Str × Addr)} {s : Str}, s ∈ l.map (·.1) → (s, clOf l s) ∈ l := by
    intro l s
    induction l with
    | nil => intro h; simp at h
    | cons p l ih =>
      intro h
      obtain ⟨t, c⟩ := p
      by_cases e : s = t
      · subst e
        have : clOf ((s, c) :: l) s = c := by simp [clOf, List.lookup]
        rw [this]; simp
      · have hs : s ∈ l.map (·.1) := by
          rcases List.mem_cons.mp h with z | z
          · exact absurd z e
          · exact z
        have : clOf ((t, c) :: l) s = clOf l s := by
          have : (s == t) = false := by simpa using e
          simp [clOf, List.lookup, this]
        rw [this]
        exact List.mem_cons_of_mem _ (ih hs)
  intro a ha b hb e
  have h2 := of_decide_eq_true h2
  have ga := g ha
  have gb := g hb
  rw [e] at ga
  obtain ⟨i, hi⟩ := List.getElem?_of_mem ga
  obtain ⟨j, hj⟩ := List.getElem?_of_mem gb
  have m1 : (l.map (·.2))[i]? = some (clOf l b) := by rw [List.getElem?_map, hi]; rfl
  have m2 : (l.map (·.2))[j]? = some (clOf l b) := by rw [List.getElem?_map, hj]; rfl
  have hil : i < (l.map (·.2)).length := (List.getElem?_eq_some_iff.mp m1).1
  have : i = j := (List.getElem?_inj hil h2).mp (m1.trans m2.symm)
  subst this
  rw [hi] at hj
  exact (Prod.mk.inj (Option.some.inj hj)).1
theorem walkDX {l : PySem.W.OpenLaw} {k : Nat} {q : Program} {loose : List Str} {XP : (Str → Option Value) → Heap → Prop} {YP : World → Heap → Prop} {d : DefRec} {K : Params → PySem.W.Frag} {x : Str} {nms : List Str} {F : (Str → Addr) → FS}
    (hn : l.most = some 63) (hdf : d.params.defaults = []) (hr : Room k callerA) (hY : ∀ (w : World) (h : Heap), YP w h → (K w.params).In h) (hN : ∀ w : World, noLists (K w.params) = true) (hF : ∀ cl, CInj nms cl → LawOk (F cl))
    (Fo : ∀ (w : World) (mg : Str → Option Value) (fa : Addr) (h : Heap), (K w.params).In h → h.Ns mainGlobals mg → mg d.name = some (.ref fa) →
      ∃ cl : Str → Addr, CInj nms cl ∧ ∃ fd : FuncData, (∀ (s : Shared) (u : Value), BindsTo s fd ⟨[u], []⟩ [(x, u)]) ∧ ∀ base : Heap, (K w.params).In base → base.Ns mainGlobals mg → FnG l.prog w (K w.params) mg base CX0 k fa fd [x] (spD none (F cl))) :
    PySem.W.WalkO q loose XP YP l.row.toRowW d [] (fun f vs => PySem.call f vs) := by
  refine Att.attach_call hn hdf fun w s0 s1 mg mb fa o pm cd doc a vs ns G Y ho hd hcd hmg hobj hints hlen hg => ?_
  have KX := hY w _ Y
  obtain ⟨cl, ci, fd, hb, hFo⟩ := Fo w mg fa _ KX G.T.g hmg
  obtain ⟨es, he⟩ := hF cl ci ns hlen
  exact law_callG KX G.T.g G.T.b G.T.builtins G.T.nolimit hg (hN w) hobj hints (Nat.le_trans hlen (by decide)) hr hFo hb he
/-- a row of a class's body -/
def clsRow (st : Stmt) (j : Nat) : Stmt := match st with
  | .ClassDef _ _ _ body _ _ _ _ _ _ _ => body.getD j (.Pass ⟨0, 0, 0, 0⟩)
  | _ => .Pass ⟨0, 0, 0, 0⟩
theorem all_nil {p : Str → Prop} : ∀ y ∈ ([] : List Str), p y := fun y h => by cases h
theorem all_cons {p : Str → Prop} {a : Str} {l : List Str} (h : p a) (t : ∀ y ∈ l, p y) : ∀ y ∈ a :: l, p y := fun y hy => by
  rcases List.mem_cons.mp hy with rfl | z
  · exact h
  · exact t y z
end DL
set_option Elab.async false
set_option linter.all false
set_option maxRecDepth 100000
set_option maxHeartbeats 1000000
namespace DL
open PySem PySem.Spec PyProof.Rows L2
section
variable {cl : Str → Addr} {X : Cx} {e : Expr} {es : List Expr} {x y : Fx} {pos : Pos}
theorem dex_ix {b : Expr} (h : DEx cl X e x) (hs : PlainIx b := by intro _ _; rfl) : DEx cl X (.Subscript e b pos) x := fun P T σ ρ H n ρ' S hf W tk q =>
  PE.we (pe_ix ix_seq peW peW hs) (h P T σ ρ H n ρ' S hf W tk q).no
theorem dex_if {c a b : Expr} {f : Ft} (hc : DT X.nox c f) (ha : DEx cl X a x) (hb : DEx cl X b y) : DEx cl X (.IfExp c a b pos) (xif f x y) := fun P T σ ρ H n ρ' S hf W tk q => by
  simp only [xif, Option.bind_eq_some_iff] at hf
  obtain ⟨⟨z, ρ1⟩, e1, e2⟩ := hf
  refine PE.we (pe_ifExp ptW peW peW) (hc.up P T σ ρ H z ρ1 S e1 _ fun H1 S1 st1 kp1 => ?_)
  have q' : ∀ H' T' cls d, (∀ b, T b → T' b) → Sim P T' σ ρ' H' → Stp σ ρ1 H1 σ ρ' H' → XV cl P T' σ ρ' H' n cls d → W cls d σ H' := fun H' T' cls d l S' st' v => q H' T' cls d l S' (st1.trans st') v
  cases z with
  | true => exact (ha P T σ ρ1 H1 n ρ' S1 e2 W tk q').no
  | false => exact (hb P T σ ρ1 H1 n ρ' S1 e2 W tk q').no
end
end DL
set_option Elab.async false
set_option linter.all false
set_option maxRecDepth 100000
set_option maxHeartbeats 1000000
namespace DL
open PySem PySem.Spec PyProof.Rows L2
theorem arm_callSub (a b : Expr) (p2 : Pos) (args : List Expr) (keywords : List Keyword) (pos : Pos) (env : Env) : eval (.Call (.Subscript a b p2) args keywords pos) env = (do
    callWith pos (← eval (.Subscript a b p2) env) [] (backTo pos (starEach args env)) (backToKw pos (keywordEach keywords env))) := rfl
section
variable {X : Cx} {CX : CXT} {k : Nat} {f : Addr} {fd : FuncData} {ps : List Str} {sp : Sp} {E : L2.St → XK} {pos p2 : Pos} {a b e : Expr} {es : List Expr} {σ : SS} {H : Hp} {Q : VK}
theorem we_callE (F : FnG X.prog X.w X.K X.mg X.base CX k f fd ps sp) (hr : RoomG k X.A) (hk : PySem.W.keepIn X.K (.ref f) = true) (hb : Binds X.K fd ps []) (hx : ∀ σ, PassesAt CX X σ (E σ))
    (h : WE X (.Subscript a b p2) σ H fun v H1 => v = .ref f ∧ WA X (e :: es) σ H1 fun vs H2 => sp vs H2 Q (E σ))
    (he : starEach (e :: es) X.env = (false, eval e X.env) :: starEach es X.env := by rfl) (hpl : (backTo pos (starEach es X.env)).any (·.1) = false := by rfl) :
    WE X (.Call (.Subscript a b p2) (e :: es) [] pos) σ H Q := fun pins s I => by
  rw [arm_callSub]
  refine wpAny_bind (wpAny_mono (h pins s I) (fun u s1 ⟨v, H1, I1, r, hv, ha⟩ => ?_) fun _ _ x => x)
  subst hv
  cases r
  refine PySem.W.callWith_K (h₀ := X.base) I1.ok.mod.kin hk (wpAny_mono (ha pos pins s1 I1) (fun us s2 ⟨vs, H2, I2, r, q⟩ => ⟨I2.kIn, ?_⟩) fun _ _ x => x) he hpl
  have hl : (us ++ []).length = ps.length := by rw [List.append_nil, ← r.length]; exact F.many _ _ _ _ q
  have b1 := hb s2 us I2.kIn hl
  rw [List.append_nil] at b1
  refine wpAny_call (codeAny_mono (F.goS hr (hx σ) I2 b1 r q) fun r s' hq => ?_)
  match r, hq with
  | .error e, hq => exact hq
  | .ok (.ret u), hq => exact hq
end
/-- names of defs that may raise -/
inductive XFs (cl : Str → Addr) (X : Cx) : List Expr → List V → List GX → Prop
  | nil : XFs cl X [] [] []
  | cons {e : Expr} {f : Addr} {fd : FuncData} {ps : List Str} {lv : Nat} {G : GX} {es : List Expr} {vs : List V} {Gs : List GX} (h : PE X e (tC (.ref f))) (FO : FnG X.prog X.w X.K X.mg X.base (L2.CX X.prog X.w) lv f fd ps (spX cl G)) (hr : RoomG lv X.A)
    (hk : PySem.W.keepIn X.K (.ref f) = true) (hb : Binds X.K fd ps []) (t : XFs cl X es vs Gs) (hs : starEach (e :: es) X.env = (false, eval e X.env) :: starEach es X.env := by rfl) : XFs cl X (e :: es) (.ref f :: vs) (G :: Gs)
theorem XFs.nml {cl : Str → Addr} {X : Cx} {es : List Expr} {vs : List V} {Gs : List GX} (h : XFs cl X es vs Gs) : NmL X es vs := by
  induction h with
  | nil => exact .nil
  | cons h _ _ _ _ _ hs ih => exact .cons h ih hs
theorem XFs.len {cl : Str → Addr} {X : Cx} {es : List Expr} {vs : List V} {Gs : List GX} (h : XFs cl X es vs Gs) : vs.length = Gs.length := by
  induction h with
  | nil => rfl
  | cons h _ _ _ _ _ hs ih => simp [ih]
theorem XFs.get {cl : Str → Addr} {X : Cx} {es : List Expr} {vs : List V} {Gs : List GX} (h : XFs cl X es vs Gs) : ∀ {i : Nat} {G : GX}, Gs[i]? = some G → ∃ f fd ps lv, vs[i]? = some (.ref f) ∧ FnG X.prog X.w X.K X.mg X.base (L2.CX X.prog X.w) lv f fd ps (spX cl G) ∧ RoomG lv X.A ∧ PySem.W.keepIn X.K (.ref f) = true ∧ Binds X.K fd ps [] := by
  induction h with
  | nil => intro i G e; simp at e
  | cons h FO hr hk hb _ hs ih =>
    intro i G e
    cases i with
    | zero => cases e; exact ⟨_, _, _, _, rfl, FO, hr, hk, hb⟩
    | succ i => exact ih (by simpa using e)
def xix (Gs : List GX) (k : Fe) (fs : Fa) : Fx := fun ρ => (k ρ).bind fun z => match z.1 with
  | .sh (.int i) => if 0 ≤ i then (Gs[i.toNat]?).bind fun G => xcall G fs z.2 else none
  | _ => none
theorem dex_callIx {cl : Str → Addr} {X : Cx} {es : List Expr} {vs : List V} {Gs : List GX} {k e : Expr} {as : List Expr} {fk : Fe} {fs : Fa} {p1 p2 pos : Pos} (hX : XFs cl X es vs Gs) (hk : DE X.nox k fk) (ha : DA X.nox (e :: as) fs) (hl : vs.length ≤ 1000 := by simp)
    (hs : PlainIx k := by intro _ _; rfl) (he : starEach (e :: as) X.env = (false, eval e X.env) :: starEach as X.env := by rfl) (hpl : (backTo pos (starEach as X.env)).any (·.1) = false := by rfl) :
    DEx cl X (.Call (.Subscript (.List es p1) k p2) (e :: as) [] pos) (xix Gs fk fs) := by
  intro P T σ ρ H n ρ' S hf W tk q
  simp only [xix, Option.bind_eq_some_iff] at hf
  obtain ⟨⟨r, ρ1⟩, e1, e2⟩ := hf
  match r, e2 with
  | .sh (.int i), e2 =>
    simp only at e2
    by_cases hi : 0 ≤ i
    · rw [if_pos hi] at e2
      simp only [Option.bind_eq_some_iff] at e2
      obtain ⟨G, e3, e4⟩ := e2
      simp only [xcall, Option.bind_eq_some_iff, Option.map_eq_some_iff] at e4
      obtain ⟨⟨rs, ρ2⟩, h1, ds, h2, n', h3, ρ3, h4, h5⟩ := e4
      cases h5
      obtain ⟨f, fd, ps, lv, hv, FO, hr, hkp, hb⟩ := hX.get e3
      refine we_callE FO hr hkp hb (fun σ => passAt tk σ) (PE.we (pe_ix ix_seq (pe_lst hX.nml.pa) peW hs) ?_) he hpl
      refine ⟨small_of (by omega), fun p hp => ?_⟩
      obtain ⟨S1, st1⟩ := S.allocT (o := .lst vs) hp
      refine hk.up P T σ ρ (upd H p (.lst vs)) _ ρ1 S1 e1 _ fun v H1 T1 A => ?_
      have hnown : ¬ Own σ ρ p := fun z => by
        obtain ⟨o, e⟩ := own_dom S z
        rw [hp] at e; cases e
      have hvi : v = .int i := by
        obtain ⟨_, _, _, tx, vl⟩ := A
        cases (show Rep _ _ _ _ from vl)
        rfl
      have hlt := (List.getElem?_eq_some_iff.mp hv).1
      refine .inl ⟨p, vs, i, .ref f, rfl, hvi, .inl (.inl (A.stp.fr p _ upd_same hnown)), ?_, rfl, ?_⟩
      · unfold atI ixN
        rw [if_pos hi, if_pos (by omega)]
        exact hv
      · exact ha.up P T1 σ ρ1 H1 rs ρ2 A.sim h1 _ fun us H2 T2 _ A2 => xcall_core A.sim A2 h2 h3 h4 fun H' cls d S' st' w => q H' T1 cls d (fun b hb => A.tx.tg.1 b hb) S' ((st1.trans A.stp).trans st') w
    · rw [if_neg hi] at e2; cases e2
end DL
set_option Elab.async false
set_option linter.all false
set_option maxRecDepth 100000
set_option maxHeartbeats 2000000
namespace DL
open PySem PySem.Spec PyProof.Rows L2
section
end
section
end
end DL
set_option Elab.async false
set_option linter.all false
set_option maxRecDepth 100000
set_option maxHeartbeats 1000000
namespace DL
open PySem PySem.Spec PyProof.Rows L2
section
end
section
end
section
end
end DL
set_option Elab.async false
set_option linter.all false
set_option maxRecDepth 100000
set_option maxHeartbeats 2000000
namespace DL
open PySem PySem.Spec PyProof.Rows L2
section
end
section
end
section
end
section
end
section
end
end DL
set_option Elab.async false
set_option linter.all false
set_option maxRecDepth 100000
set_option maxHeartbeats 2000000
namespace DL
open PySem PySem.Spec PyProof.Rows L2
/-- an object at v: its fields fn are the objects at bs -/
structure ObjAt (C : Addr) (fn : List Str) (H : Hp) (v : V) (bs : List Addr) : Prop where
  ex : ∃ a dx fs, v = .ref a ∧ H a = some (.ins C dx fs) ∧ a ∉ bs ∧ (∀ (k : Nat) (f : Str), fn[k]? = some f → ∃ b, bs[k]? = some b ∧ fs.lookup f = some (.ref b)) ∧ (∀ (f : Str) (v : V), fs.lookup f = some v → f ∈ fn) ∧ fs.length ≤ fn.length
  len : bs.length = fn.length
  nd : bs.Nodup
structure ArgsO (C : Addr) (fn : List Str) (S : Addr → Prop) (H : Hp) (v : V) (vs : List V) (ds : List D) (bs : List Addr) (os : List D) : Prop where
  ob : ObjAt C fn H v bs
  own : ∀ (k : Nat) (b : Addr), bs[k]? = some b → ∃ o d, os[k]? = some d ∧ H b = some o ∧ OwnC S H o d ∧ ¬ S b ∧ isOb d = false
  olen : os.length = bs.length
  sh : RepA S H vs ds
  tp : ∀ b xs, H b = some (.tup xs) → S b
  ns : ∀ a, v = .ref a → ¬ S a
structure PostO (bs : List Addr) (S : Addr → Prop) (H : Hp) (r : FR) (v : V) (H' : Hp) (T : Addr → Prop) : Prop where
  keep : ∀ b o, H b = some o → b ∉ bs → H' b = some o
  dom : ∀ b o, H b = some o → ∃ o', H' b = some o'
  tn : ∀ b, T b → H b = none
  res : r.fr = false → Rep (Nw S H T) H' v r.d
  fr : r.fr = true → ∃ a o, v = V.ref a ∧ T a ∧ H' a = some o ∧ OwnC (Nw S H T) H' o r.d
  bx : ∀ (k : Nat) (b : Addr), bs[k]? = some b → ∃ o d, r.bx[k]? = some d ∧ H' b = some o ∧ OwnC (Nw S H T) H' o d
section
end
section
end
end DL
set_option Elab.async false
set_option linter.all false
set_option maxRecDepth 100000
set_option maxHeartbeats 2000000
namespace DL
open PySem PySem.Spec PyProof.Rows L2
section
end
section
end
section
end
end DL
set_option Elab.async false
set_option linter.all false
set_option maxRecDepth 100000
set_option maxHeartbeats 2000000
namespace DL
open PySem PySem.Spec PyProof.Rows L2
section
end
/-- what the things that are fixed have become -/
structure Ext (a : Addr) (P P' : Pk) : Prop where
  h0 : ∀ b o, P.H0 b = some o → b ≠ a → P'.H0 b = some o
  S : ∀ b, P'.S b → P.S b
  B : ∀ b, P'.B b → P.B b ∨ P.H0 b = none
  n : ∀ b, P'.H0 b = none → P.H0 b = none
theorem Ext.trans {a : Addr} {P P1 P2 : Pk} (x : Ext a P P1) (y : Ext a P1 P2) : Ext a P P2 :=
  ⟨fun b o h n => y.h0 b o (x.h0 b o h n) n, fun b h => x.S b (y.S b h), fun b h => (y.B b h).elim (x.B b) fun z => .inr (x.n b z), fun b h => x.n b (y.n b h)⟩
section
end
def NwI (S : Addr → Prop) (H : Hp) (a : Addr) (bs : List Addr) (b : Addr) : Prop := (S b ∨ H b = none) ∧ b ∉ bs ∧ b ≠ a
structure PostI (C : Addr) (fn : List Str) (S : Addr → Prop) (H : Hp) (a : Addr) (os : List D) (H' : Hp) (bs : List Addr) : Prop where
  keep : ∀ b o, H b = some o → b ≠ a → H' b = some o
  dom : ∀ b o, H b = some o → ∃ o', H' b = some o'
  ob : ObjAt C fn H' (.ref a) bs
  olen : os.length = bs.length
  own : ∀ (k : Nat) (b : Addr), bs[k]? = some b → H b = none ∧ ∃ o d, os[k]? = some d ∧ H' b = some o ∧ OwnC (NwI S H a bs) H' o d ∧ isOb d = false
def spI (C : Addr) (fn : List Str) (I : List D → Option (List D)) : Sp := fun vs H Q _ => ∃ (a dx : Addr) (vs' : List V) (S : Addr → Prop) (ds os : List D), vs = .ref a :: vs' ∧ I ds = some os ∧ H a = some (.ins C dx []) ∧ RepA S H vs' ds ∧ ¬ S a ∧ (∀ b xs, H b = some (.tup xs) → S b) ∧ ∀ H' bs, PostI C fn S H a os H' bs → Q .non H'
section
end
end DL
set_option Elab.async false
set_option linter.all false
set_option maxRecDepth 100000
set_option maxHeartbeats 2000000
namespace DL
open PySem PySem.Spec PyProof.Rows L2
section
end
section
variable {P : Pk} {T : Addr → Prop} {σ : SS} {ρ : En} {H H' : Hp} {W : Addr → Prop} [DecidablePred W]
/-- how the fixed things of two views hang together -/
structure Bk (P P2 : Pk) : Prop where
  S : ∀ b, P2.S b → P.S b
  n : ∀ b, P2.H0 b = none → P.H0 b = none
  k : ∀ b o, P.H0 b = some o → P2.H0 b = some o ∧ (P2.B b → P.B b)
  sB : ∀ b, P.B b → ¬ P.S b ∧ ∃ o, P.H0 b = some o
end
section
end
section
end
section
variable {X : Cx} {C fI : Addr} {fd : FuncData} {ps : List Str} {lv n i : Nat} {fn : List Str} {I : List D → Option (List D)} {fs fs2 : Fa} {x cname : Str} {p pos : Pos} {e : Expr} {es : List Expr}
/-- what stands behind C(..) -/
structure Made (C : Addr) (fn : List Str) (P : Pk) (T : Addr → Prop) (σ : SS) (ρ : En) (H : Hp) (os : List D) (ρ2 : En) (a : Addr) (H2 : Hp) (W : Addr → Prop) (P1 : Pk) : Prop where
  sim : Sim P1 T σ ρ2 H2
  stp : Stp σ ρ H σ ρ2 H2
  ex : ∃ (dx : Addr) (fls : List (Str × V)) (bs : List Addr), (∀ x, W x ↔ x = a ∨ x ∈ bs) ∧ P1.H0 a = some (.ins C dx fls) ∧ a ∉ bs ∧ bs.Nodup ∧ bs.length = fn.length ∧ os.length = bs.length ∧ (∀ (k : Nat) (f : Str), fn[k]? = some f → ∃ b, bs[k]? = some b ∧ fls.lookup f = some (.ref b)) ∧ ((∀ (f : Str) (v : V), fls.lookup f = some v → f ∈ fn) ∧ fls.length ≤ fn.length) ∧
    ∀ (k : Nat) (b : Addr), bs[k]? = some b → ∃ o d, os[k]? = some d ∧ P1.H0 b = some o ∧ OwnC (Av P1 T σ ρ2) H2 o d ∧ isOb d = false
  new : ∀ x, W x → H x = none ∧ ¬ P1.S x ∧ ¬ P1.B x
  bk : Bk P P1
end
end DL
set_option Elab.async false
set_option linter.all false
set_option maxRecDepth 100000
set_option maxHeartbeats 2000000
namespace DL
open PySem PySem.Spec PyProof.Rows L2
end DL
namespace DL
open PySem PySem.Spec PyProof.Rows L2
/-- a method, __init__ of a class -/
structure AtM (K : PySem.W.Frag) (C : Addr) (m qual : Str) (st : Stmt) (ps : List Str) (f : Addr) (fd : FuncData) : Prop where
  fn : Fun K m qual st f fd
  mt : Meth K C m f
  bd : Binds K fd ps []
structure AtI (K : PySem.W.Frag) (C : Addr) (m qual : Str) (st : Stmt) (ps : List Str) (f : Addr) (fd : FuncData) : Prop where
  fn : Fun K m qual st f fd
  mkc : Mk K C f
  bd : Binds K fd ps []
end DL
set_option Elab.async false
set_option linter.all false
set_option maxRecDepth 100000
set_option maxHeartbeats 2000000
namespace DL
open PySem PySem.Spec PyProof.Rows L2
end DL
set_option Elab.async false
set_option linter.all false
set_option maxRecDepth 100000
set_option maxHeartbeats 2000000
namespace DL
open PySem PySem.Spec PyProof.Rows L2
end DL
set_option Elab.async false
set_option linter.all false
set_option maxRecDepth 100000
set_option maxHeartbeats 2000000
namespace DL
open PySem PySem.Spec PyProof.Rows L2
open Sem (wp)
/-- a zip of two lists amid its walk into a list at S; ts: the pairs given out -/
structure ZAt (h0 h : Heap) (S z TI TO i1 i2 a b : Addr) (xs ys : Array Value) (i : Nat) (ts : List (Addr × Value × Value)) : Prop where
  ti : IsPair h TI (.ref i1) (.ref i2)
  l1 : h.IsListIter i1 a i
  l2 : h.IsListIter i2 b i
  la : h.IsList a xs
  lb : h.IsList b ys
  zz : (IsZip h z TI TO .none ∧ ∃ u v, IsPair h TO u v) ∨ ∃ T f oT, IsZipHeld h z TI TO T f ∧ h.get? T = some oT ∧ h0.objs.size ≤ T
  out : ∃ c, h.get? S = some { cls := .type "list", dict := none, data := .seq (ts.map fun t => Value.ref t.1).toArray c, slots := #[] }
  nd : (ts.map (·.1)).Nodup
  pr : ∀ t ∈ ts, h0.objs.size ≤ t.1 ∧ IsPair h t.1 t.2.1 t.2.2
  ex : ts.map (·.2.1) = xs.toList.take i
  ey : ts.map (·.2.2) = ys.toList.take i
  kp : ∀ c o, c ≠ S → c ≠ z → c ≠ TO → c ≠ i1 → c ≠ i2 → h0.get? c = some o → h.get? c = some o
section
end
section
end
section
end
end DL
set_option Elab.async false
set_option linter.all false
set_option maxRecDepth 100000
set_option maxHeartbeats 2000000
namespace DL
open PySem PySem.Spec PyProof.Rows L2
section
end
section
end
end DL
set_option Elab.async false
set_option linter.all false
set_option maxRecDepth 100000
set_option maxHeartbeats 1000000
namespace DL
open PySem PySem.Spec PyProof.Rows L2
end DL
set_option Elab.async false
set_option linter.all false
set_option maxRecDepth 100000
set_option maxHeartbeats 1000000
namespace DL
open PySem PySem.Spec PyProof.Rows L2 SrtO
section
end
end DL
set_option Elab.async false
set_option linter.all false
set_option maxRecDepth 100000
set_option maxHeartbeats 2000000
namespace DL
open PySem PySem.Spec PyProof.Rows L2
section
end
end DL
set_option Elab.async false
set_option linter.all false
set_option maxRecDepth 100000
set_option maxHeartbeats 2000000
namespace DL
open PySem PySem.Spec PyProof.Rows L2 PpSet
section
end
end DL
set_option Elab.async false
set_option linter.all false
set_option maxRecDepth 100000
set_option maxHeartbeats 2000000
namespace DL
open PySem PySem.Spec PyProof.Rows L2
end DL
set_option Elab.async false
set_option linter.all false
set_option maxRecDepth 100000
set_option maxHeartbeats 4000000
namespace DL
open PySem PySem.Spec PyProof.Rows L2
open Sem (wp)
/-- a zip between two turns: what it gave out last may be gone or not -/
abbrev ZpG (h : Heap) (z TI TO : Addr) (v : Value) (f : Bool) : Prop :=
  h.get? z = some { cls := .type "zip", dict := none, data := .fields #[v, .bool f, .bool false, .ref TI, .ref TO], slots := #[] }
section
variable {prog : Program} {w : World} {A : Around} {E : Value → Shared → Prop} {s : Shared}
theorem alive_any {a : Addr} {Q : Option Obj → Shared → Prop} (k : Q (s.heap.get? a) s) : wpAny (model prog w) A (loadIfAlive a) Q E s := fun _ _ _ => k
theorem zp_free {z TI TO : Addr} {v : Value} {f : Bool} {Q : Bool → Shared → Prop} (zq : ZpG s.heap z TI TO v f) (hv : v = .none ∨ ∃ T : Addr, v = rawInt T ∧ s.heap.get? T = none) (k : Q true s) :
    wpAny (model prog w) A (Builtin.SmallTypes.ownedTupleIsFree (.ref z)) Q E s := by
  unfold Builtin.SmallTypes.ownedTupleIsFree
  rcases hv with rfl | ⟨T, rfl, hT⟩
  · exact wpAny_bind (wpAny_field zq rfl (x := .none) rfl (wpAny_pure k))
  · refine wpAny_bind (wpAny_field zq rfl (x := rawInt T) rfl ?_)
    show wpAny _ _ (loadIfAlive ((T : Int).toNat) >>= _) _ _ s
    rw [Int.toNat_natCast]
    refine wpAny_bind (alive_any ?_)
    rw [hT]
    exact wpAny_pure k
theorem zp_item {z TI TO i1 i2 l1 l2 : Addr} {k1 k2 : Nat} {xs ys : Array Value} {x y a b v : Value} {f : Bool} {Q : Value → Shared → Prop} (D : ZipApart z TI TO i1 i2 l1 l2)
    (zq : ZpG s.heap z TI TO v f) (hv : v = .none ∨ ∃ T : Addr, v = rawInt T ∧ s.heap.get? T = none) (qI : IsPair s.heap TI (.ref i1) (.ref i2)) (qO : IsPair s.heap TO a b)
    (u1 : s.heap.IsListIter i1 l1 k1) (u2 : s.heap.IsListIter i2 l2 k2) (m1 : s.heap.IsList l1 xs) (m2 : s.heap.IsList l2 ys) (hx : xs[k1]? = some x) (hy : ys[k2]? = some y)
    (hQ : ∀ g, ZpG g z TI TO (rawInt s.heap.objs.size) false → IsPair g TO x y → g.IsListIter i1 l1 (k1 + 1) → g.IsListIter i2 l2 (k2 + 1) → IsPair g s.heap.objs.size x y → g.objs.size = s.heap.objs.size + 1 →
      (∀ c o, c ≠ z → c ≠ TO → c ≠ i1 → c ≠ i2 → s.heap.get? c = some o → g.get? c = some o) → Q (.ref s.heap.objs.size) { s with heap := g }) :
    wpAny (model prog w) A (Builtin.«zip.__next__» ⟨[.ref z], []⟩) (fun fin s' => ∃ v, fin = .done (.ret v) ∧ Q v s') E s := by
  show wpAny _ _ (field (.ref z) 2 >>= _) _ _ s
  refine wpAny_bind (wpAny_field zq rfl (x := .bool false) rfl ?_)
  show wpAny _ _ (field (.ref z) 3 >>= _) _ _ s
  refine wpAny_bind (wpAny_field zq rfl (x := .ref TI) rfl ?_)
  refine wpAny_bind (wpAny_seqItems qI rfl ?_)
  show wpAny _ _ (Builtin.SmallTypes.ownedTupleIsFree (.ref z) >>= _) _ _ s
  refine wpAny_bind (zp_free zq hv ?_)
  simp only [if_true]
  refine wpAny_bind (wpAny_rule ?_)
  refine wpAny_bind (wpAny_field zq rfl (x := .ref TO) rfl ?_)
  refine wpAny_bind (wpAny_setField_rec zq (by simp) fun g1 zq1 sb1 => ?_)
  replace zq1 : ZpG g1 z TI TO .ellipsis f := zq1
  refine wpAny_bind ?_
  simp only [List.zipIdx_cons, List.zipIdx_nil, List.forIn_cons, List.forIn_nil]
  refine wpAny_bind (wpAny_bind (wpAny_onRaise ?_))
  show wpAny _ _ (Builtin.SmallTypes.nextOf (.ref i1) >>= _) _ _ { s with heap := g1 }
  refine wpAny_bind (wpAny_nextOf_list_item (u1.extBut sb1.extBut D.i1z) (m1.extBut sb1.extBut D.l1z) hx fun g2 v1 sb2 => wpAny_pure ?_)
  have qO2 : IsPair g2 TO a b := sb2.extBut _ _ D.TOi1 (sb1.extBut _ _ D.TOz qO)
  refine wpAny_bind (wpAny_seqItems qO2 rfl ?_)
  refine wpAny_bind (wpAny_updateSeq_pair qO2 fun g3 qO3 sb3 => ?_)
  replace qO3 : IsPair g3 TO x b := qO3
  refine wpAny_bind (wpAny_letGo (wpAny_pure ?_))
  refine wpAny_bind (wpAny_bind (wpAny_onRaise ?_))
  show wpAny _ _ (Builtin.SmallTypes.nextOf (.ref i2) >>= _) _ _ { s with heap := g3 }
  refine wpAny_bind (wpAny_nextOf_list_item (((u2.extBut sb1.extBut D.i2z).extBut sb2.extBut D.i12.symm).extBut sb3.extBut D.TOi2.symm) (((m2.extBut sb1.extBut D.l2z).extBut sb2.extBut D.l2i1).extBut sb3.extBut D.l2TO) hy fun g4 v2 sb4 => wpAny_pure ?_)
  have qO4 : IsPair g4 TO x b := sb4.extBut _ _ D.TOi2 qO3
  refine wpAny_bind (wpAny_seqItems qO4 rfl ?_)
  refine wpAny_bind (wpAny_updateSeq_pair qO4 fun g5 qO5 sb5 => ?_)
  replace qO5 : IsPair g5 TO x y := qO5
  refine wpAny_bind (wpAny_letGo (wpAny_pure (wpAny_pure ?_)))
  refine wpAny_bind (wpAny_seqItems qO5 rfl ?_)
  refine wpAny_bind (wpAny_newTuple ?_)
  have sz5 : g5.objs.size = s.heap.objs.size := by rw [sb5.1, sb4.1, sb3.1, sb2.1, sb1.1]
  have zq5 : ZpG g5 z TI TO .ellipsis f := sb5.extBut _ _ D.TOz.symm (sb4.extBut _ _ D.i2z.symm (sb3.extBut _ _ D.TOz.symm (sb2.extBut _ _ D.i1z.symm zq1)))
  have kk5 : ∀ c o, c ≠ z → c ≠ TO → c ≠ i1 → c ≠ i2 → s.heap.get? c = some o → g5.get? c = some o := fun c o c1 c2 c3 c4 e =>
    sb5.extBut _ _ c2 (sb4.extBut _ _ c4 (sb3.extBut _ _ c2 (sb2.extBut _ _ c3 (sb1.extBut _ _ c1 e))))
  have w1 : g5.IsListIter i1 l1 (k1 + 1) := ((v1.extBut sb3.extBut D.TOi1.symm).extBut sb4.extBut D.i12).extBut sb5.extBut D.TOi1.symm
  have w2 : g5.IsListIter i2 l2 (k2 + 1) := v2.extBut sb5.extBut D.TOi2.symm
  have zlt : z < g5.objs.size := Heap.lt_size zq5
  show wpAny _ _ (Builtin.SmallTypes.ownedTupleHandOut (.ref z) (.ref g5.objs.size) >>= _) _ _ _
  refine wpAny_bind ?_
  unfold Builtin.SmallTypes.ownedTupleHandOut
  have zq6 : ZpG (g5.push { cls := .type "tuple", data := .seq #[x, y] }) z TI TO .ellipsis f := Heap.get?_push_of_some _ zq5
  refine wpAny_bind (wpAny_setField_rec zq6 (by simp) fun g7 zq7 sb7 => ?_)
  replace zq7 : ZpG g7 z TI TO (rawInt g5.objs.size) f := zq7
  refine wpAny_setField_rec zq7 (by simp) fun g8 zq8 sb8 => ?_
  replace zq8 : ZpG g8 z TI TO (rawInt g5.objs.size) false := zq8
  have up : ∀ c o, c ≠ z → g5.get? c = some o → g8.get? c = some o := fun c o c1 e => sb8.extBut _ _ c1 (sb7.extBut _ _ c1 (Heap.get?_push_of_some _ e))
  have qT8 : IsPair g8 g5.objs.size x y := sb8.extBut _ _ (Nat.ne_of_gt zlt) (sb7.extBut _ _ (Nat.ne_of_gt zlt) (Heap.get?_push_size _ rfl))
  have sz8 : g8.objs.size = g5.objs.size + 1 := by rw [sb8.1, sb7.1, Heap.size_push]
  rw [sz5] at zq8 qT8 sz8
  refine wpAny_pure ⟨_, rfl, ?_⟩
  show Q (.ref g5.objs.size) _
  rw [sz5]
  exact hQ g8 zq8 (up _ _ D.TOz qO5) (w1.at fun o e => up _ o D.i1z e) (w2.at fun o e => up _ o D.i2z e) qT8 sz8 fun c o c1 c2 c3 c4 e => up c o c1 (kk5 c o c1 c2 c3 c4 e)
theorem zp_end {z TI TO i1 i2 l1 l2 : Addr} {k1 k2 : Nat} {xs ys : Array Value} {a b v : Value} {f : Bool} {Q : Fin → Shared → Prop} (hh : A.handled = none) (D : ZipApart z TI TO i1 i2 l1 l2)
    (zq : ZpG s.heap z TI TO v f) (hv : v = .none ∨ ∃ T : Addr, v = rawInt T ∧ s.heap.get? T = none) (qI : IsPair s.heap TI (.ref i1) (.ref i2)) (qO : IsPair s.heap TO a b)
    (u1 : s.heap.IsListIter i1 l1 k1) (u2 : s.heap.IsListIter i2 l2 k2) (m1 : s.heap.IsList l1 xs) (m2 : s.heap.IsList l2 ys) (hend : xs[k1]? = none ∨ ys[k2]? = none)
    (hE : ∀ g e, (∀ c o, c ≠ z → c ≠ TO → c ≠ i1 → c ≠ i2 → s.heap.get? c = some o → g.get? c = some o) → (∃ o, g.get? e = some o ∧ o.cls = .type "StopIteration") → E (.ref e) { s with heap := g }) :
    wpAny (model prog w) A (Builtin.«zip.__next__» ⟨[.ref z], []⟩) Q E s := by
  show wpAny _ _ (field (.ref z) 2 >>= _) _ _ s
  refine wpAny_bind (wpAny_field zq rfl (x := .bool false) rfl ?_)
  show wpAny _ _ (field (.ref z) 3 >>= _) _ _ s
  refine wpAny_bind (wpAny_field zq rfl (x := .ref TI) rfl ?_)
  refine wpAny_bind (wpAny_seqItems qI rfl ?_)
  show wpAny _ _ (Builtin.SmallTypes.ownedTupleIsFree (.ref z) >>= _) _ _ s
  refine wpAny_bind (zp_free zq hv ?_)
  simp only [if_true]
  refine wpAny_bind (wpAny_rule ?_)
  refine wpAny_bind (wpAny_field zq rfl (x := .ref TO) rfl ?_)
  refine wpAny_bind (wpAny_setField_rec zq (by simp) fun g1 zq1 sb1 => ?_)
  replace zq1 : ZpG g1 z TI TO .ellipsis f := zq1
  refine wpAny_bind ?_
  simp only [List.zipIdx_cons, List.zipIdx_nil, List.forIn_cons, List.forIn_nil]
  refine wpAny_bind (wpAny_bind (wpAny_onRaise ?_))
  show wpAny _ _ (Builtin.SmallTypes.nextOf (.ref i1) >>= _) _ _ { s with heap := g1 }
  cases hx : xs[k1]? with
  | none =>
    refine wpAny_bind (wpAny_nextOf_list_end hh (u1.extBut sb1.extBut D.i1z) (m1.extBut sb1.extBut D.l1z) hx fun g2 e sb2 he => ?_)
    obtain ⟨oe, hoe, hce⟩ := he
    have zq2 : ZpG g2 z TI TO .ellipsis f := sb2 _ _ D.i1z.symm zq1
    have nez : e ≠ z := fun q => by subst q; rw [zq2] at hoe; cases hoe; simp at hce
    refine wpAny_setField_rec zq2 (by simp) fun g3 _ sb3 => hE g3 e (fun c o c1 _ c3 _ q => sb3.extBut _ _ c1 (sb2 _ _ c3 (sb1.extBut _ _ c1 q))) ⟨oe, sb3.extBut _ _ nez hoe, hce⟩
  | some x =>
    have hy : ys[k2]? = none := by rcases hend with h | h; rw [hx] at h; cases h; exact h
    refine wpAny_bind (wpAny_nextOf_list_item (u1.extBut sb1.extBut D.i1z) (m1.extBut sb1.extBut D.l1z) hx fun g2 v1 sb2 => wpAny_pure ?_)
    have qO2 : IsPair g2 TO a b := sb2.extBut _ _ D.TOi1 (sb1.extBut _ _ D.TOz qO)
    refine wpAny_bind (wpAny_seqItems qO2 rfl ?_)
    refine wpAny_bind (wpAny_updateSeq_pair qO2 fun g3 qO3 sb3 => ?_)
    refine wpAny_bind (wpAny_letGo (wpAny_pure ?_))
    refine wpAny_bind (wpAny_bind (wpAny_onRaise ?_))
    show wpAny _ _ (Builtin.SmallTypes.nextOf (.ref i2) >>= _) _ _ { s with heap := g3 }
    refine wpAny_bind (wpAny_nextOf_list_end hh (((u2.extBut sb1.extBut D.i2z).extBut sb2.extBut D.i12.symm).extBut sb3.extBut D.TOi2.symm) (((m2.extBut sb1.extBut D.l2z).extBut sb2.extBut D.l2i1).extBut sb3.extBut D.l2TO) hy fun g4 e sb4 he => ?_)
    obtain ⟨oe, hoe, hce⟩ := he
    have zq4 : ZpG g4 z TI TO .ellipsis f := sb4 _ _ D.i2z.symm (sb3.extBut _ _ D.TOz.symm (sb2.extBut _ _ D.i1z.symm zq1))
    have nez : e ≠ z := fun q => by subst q; rw [zq4] at hoe; cases hoe; simp at hce
    refine wpAny_setField_rec zq4 (by simp) fun g5 _ sb5 => hE g5 e (fun c o c1 c2 c3 c4 q => sb5.extBut _ _ c1 (sb4 _ _ c4 (sb3.extBut _ _ c2 (sb2.extBut _ _ c3 (sb1.extBut _ _ c1 q))))) ⟨oe, sb5.extBut _ _ nez hoe, hce⟩
/-- a zip of two lists at turn i -/
def ZpS (h : Heap) (z TI TO i1 i2 a b : Addr) (i : Nat) : Prop :=
  IsPair h TI (.ref i1) (.ref i2) ∧ (∃ u v, IsPair h TO u v) ∧ h.IsListIter i1 a i ∧ h.IsListIter i2 b i ∧ ∃ v f, ZpG h z TI TO v f ∧ (v = .none ∨ ∃ T : Addr, v = rawInt T)
theorem zp_keep {z TI TO i1 i2 a b : Addr} {i : Nat} {h g : Heap} (Z : ZpS h z TI TO i1 i2 a b i) (k : ∀ c ∈ [z, TI, TO, i1, i2], ∀ o, h.get? c = some o → g.get? c = some o) : ZpS g z TI TO i1 i2 a b i := by
  obtain ⟨qI, ⟨u, v, qO⟩, u1, u2, v', f, zq, hv⟩ := Z
  exact ⟨k TI (by simp) _ qI, ⟨u, v, k TO (by simp) _ qO⟩, u1.at fun o q => k i1 (by simp) o q, u2.at fun o q => k i2 (by simp) o q, v', f, k z (by simp) _ zq, hv⟩
theorem zp_next {z TI TO i1 i2 a b : Addr} {i : Nat} {xs ys : Array Value} {x y : Value} {Q : Value → Shared → Prop} (D : ZipApart z TI TO i1 i2 a b) (Z : ZpS s.heap z TI TO i1 i2 a b i) (m1 : s.heap.IsList a xs) (m2 : s.heap.IsList b ys) (hx : xs[i]? = some x) (hy : ys[i]? = some y)
    (hQ : ∀ g, ZpS g z TI TO i1 i2 a b (i + 1) → IsPair g s.heap.objs.size x y → g.objs.size = s.heap.objs.size + 1 →
      (∀ c o, c ≠ z → c ≠ TO → c ≠ i1 → c ≠ i2 → s.heap.get? c = some o → g.get? c = some o) → Q (.ref s.heap.objs.size) { s with heap := g }) :
    wpAny (model prog w) A (Builtin.SmallTypes.nextOf (.ref z)) Q E s := by
  obtain ⟨qI, ⟨u, v, qO⟩, u1, u2, v', f, zq, hv⟩ := Z
  have hTy : s.TypeIs (.ref z) "zip" := ⟨_, zq, rfl⟩
  unfold Builtin.SmallTypes.nextOf
  refine wpAny_bind (wpAny_callSpecial?_slot (name := Str.ofString "__next__") hTy F.slot_zip_next (wpAny_call_entry F.slot_zip_next hTy F.entry_zip_next ?_ (F.args_zip_next_1 _)))
  have free : ∀ A' : Around, (v' = .none ∨ ∃ T : Addr, v' = rawInt T ∧ s.heap.get? T = none) → wpAny (model prog w) A' (Builtin.«zip.__next__» ⟨[.ref z], []⟩) (fun fin s' => ∃ v, fin = .done (.ret v) ∧ wpAny (model prog w) A (pure v) Q E s') E s := fun A' hv => by
    refine zp_item D zq hv qI qO u1 u2 m1 m2 hx hy fun g a1 a2 a3 a4 a5 a6 hk => wpAny_pure (hQ g ?_ a5 a6 hk)
    exact ⟨hk _ _ D.TIz D.TITO D.TIi1 D.TIi2 qI, ⟨_, _, a2⟩, a3, a4, _, _, a1, .inr ⟨_, rfl⟩⟩
  rcases hv with rfl | ⟨T, rfl⟩
  · exact free _ (.inl rfl)
  · cases hT : s.heap.get? T with
    | none => exact free _ (.inr ⟨T, rfl, hT⟩)
    | some oT =>
      refine zip_next_item_held D zq hT qI u1 u2 m1 m2 hx hy fun g a1 a3 a4 a5 a6 hk => wpAny_pure (hQ g ?_ a5 a6 fun c o c1 _ c3 c4 e => hk c o c1 c3 c4 e)
      exact ⟨hk _ _ D.TIz D.TIi1 D.TIi2 qI, ⟨u, v, hk _ _ D.TOz D.TOi1 D.TOi2 qO⟩, a3, a4, _, _, a1, .inr ⟨T, rfl⟩⟩
theorem zp_stop {z TI TO i1 i2 a b : Addr} {i : Nat} {xs ys : Array Value} {Q : Value → Shared → Prop} (hh : A.handled = none) (D : ZipApart z TI TO i1 i2 a b) (Z : ZpS s.heap z TI TO i1 i2 a b i) (m1 : s.heap.IsList a xs) (m2 : s.heap.IsList b ys) (hend : xs[i]? = none ∨ ys[i]? = none)
    (hE : ∀ g e, (∀ c o, c ≠ z → c ≠ TO → c ≠ i1 → c ≠ i2 → s.heap.get? c = some o → g.get? c = some o) → (∃ o, g.get? e = some o ∧ o.cls = .type "StopIteration") → E (.ref e) { s with heap := g }) :
    wpAny (model prog w) A (Builtin.SmallTypes.nextOf (.ref z)) Q E s := by
  obtain ⟨qI, ⟨u, v, qO⟩, u1, u2, v', f, zq, hv⟩ := Z
  have hTy : s.TypeIs (.ref z) "zip" := ⟨_, zq, rfl⟩
  unfold Builtin.SmallTypes.nextOf
  refine wpAny_bind (wpAny_callSpecial?_slot (name := Str.ofString "__next__") hTy F.slot_zip_next (wpAny_call_entry F.slot_zip_next hTy F.entry_zip_next ?_ (F.args_zip_next_1 _)))
  rcases hv with rfl | ⟨T, rfl⟩
  · exact zp_end hh D zq (.inl rfl) qI qO u1 u2 m1 m2 hend hE
  · cases hT : s.heap.get? T with
    | none => exact zp_end hh D zq (.inr ⟨T, rfl, hT⟩) qI qO u1 u2 m1 m2 hend hE
    | some oT => exact zip_next_end_held hh D zq hT qI u1 u2 m1 m2 hend fun g e hk he => hE g e (fun c o c1 _ c3 c4 q => hk c o c1 c3 c4 q) he
/-- the enumerate over it: the next item -/
theorem ez_item {e z TI TO i1 i2 a b : Addr} {i : Nat} {xs ys : Array Value} {x y old : Value} {Q : Value → Shared → Prop} (D : ZipApart z TI TO i1 i2 a b) (ne : e ≠ z ∧ e ≠ TI ∧ e ≠ TO ∧ e ≠ i1 ∧ e ≠ i2)
    (eq0 : IsEnum s.heap e z ((i : Nat) : Int) old) (Z : ZpS s.heap z TI TO i1 i2 a b i) (m1 : s.heap.IsList a xs) (m2 : s.heap.IsList b ys) (hx : xs[i]? = some x) (hy : ys[i]? = some y)
    (hQ : ∀ g tk, IsEnumOut g e z ((i : Int) + 1) (.ref s.heap.objs.size) (s.heap.objs.size + 1) → ZpS g z TI TO i1 i2 a b (i + 1) → IsPair g s.heap.objs.size x y →
      g.get? (s.heap.objs.size + 1) = some { cls := .type "tuple", data := .seq #[.int i tk, .ref s.heap.objs.size] } →
      (∀ c o, c ≠ e → c ≠ z → c ≠ TO → c ≠ i1 → c ≠ i2 → s.heap.get? c = some o → g.get? c = some o) → Q (.ref (s.heap.objs.size + 1)) { s with heap := g, toks := tk + 1 }) :
    wpAny (model prog w) A (Builtin.«enumerate.__next__» ⟨[.ref e], []⟩) (fun fin s' => ∃ v, fin = .done (.ret v) ∧ Q v s') E s := by
  obtain ⟨nz, nI, nO, n1, n2⟩ := ne
  obtain ⟨hp, g0, d, tk, os⟩ := s
  show wpAny _ _ (field (.ref e) 2 >>= _) _ _ ⟨hp, g0, d, tk, os⟩
  refine wpAny_bind (wpAny_field eq0 rfl (x := .ref z) rfl ?_)
  refine wpAny_bind (zp_next D Z m1 m2 hx hy fun g1 Z1 pr1 sz1 kk1 => ?_)
  replace sz1 : g1.objs.size = hp.objs.size + 1 := sz1
  replace pr1 : IsPair g1 hp.objs.size x y := pr1
  replace kk1 : ∀ c o, c ≠ z → c ≠ TO → c ≠ i1 → c ≠ i2 → hp.get? c = some o → g1.get? c = some o := kk1
  have eq1 : IsEnum g1 e z ((i : Nat) : Int) old := kk1 e _ nz nO n1 n2 eq0
  have elt : e < hp.objs.size := Heap.lt_size eq0
  show wpAny _ _ (field (.ref e) 3 >>= _) _ _ ⟨g1, g0, d, tk, os⟩
  refine wpAny_bind (wpAny_field eq1 rfl (x := rawInt i) rfl ?_)
  show wpAny _ _ (field (.ref e) 4 >>= _) _ _ ⟨g1, g0, d, tk, os⟩
  refine wpAny_bind (wpAny_field eq1 rfl (x := .none) rfl ?_)
  show wpAny _ _ (mkInt i >>= _) _ _ ⟨g1, g0, d, tk, os⟩
  refine wpAny_bind (wpAny_mkInt ?_)
  show wpAny _ _ (setField (.ref e) 3 (rawInt ((i : Int) + 1)) >>= _) _ _ ⟨g1, g0, d, tk + 1, os⟩
  refine wpAny_bind (wpAny_setField_rec eq1 (by simp) fun g2 eq2 sb2 => ?_)
  replace sb2 : Heap.SameBut e g1 g2 := sb2
  replace eq2 : IsEnum g2 e z ((i : Int) + 1) old := eq2
  show wpAny _ _ (setField (.ref e) 4 .none >>= _) _ _ ⟨g2, g0, d, tk + 1, os⟩
  refine wpAny_bind (wpAny_setField_rec eq2 (by simp) fun g3 eq3 sb3 => ?_)
  replace sb3 : Heap.SameBut e g2 g3 := sb3
  replace eq3 : IsEnum g3 e z ((i : Int) + 1) old := eq3
  show wpAny _ _ (newTuple [.int i tk, .ref hp.objs.size] >>= _) _ _ ⟨g3, g0, d, tk + 1, os⟩
  refine wpAny_bind (wpAny_newTuple ?_)
  have sz3 : g3.objs.size = hp.objs.size + 1 := by rw [sb3.1, sb2.1, sz1]
  generalize hg4 : g3.push { cls := .type "tuple", data := .seq #[.int i tk, .ref hp.objs.size] } = g4
  have eq4 : IsEnum g4 e z ((i : Int) + 1) old := by rw [← hg4]; exact Heap.get?_push_of_some _ eq3
  have tp4 : g4.get? (hp.objs.size + 1) = some { cls := .type "tuple", data := .seq #[.int i tk, .ref hp.objs.size] } := by rw [← hg4, ← sz3]; exact Heap.get?_push_size _ rfl
  have sz4 : g4.objs.size = hp.objs.size + 2 := by rw [← hg4, Heap.size_push, sz3]
  have up4 : ∀ c o, c ≠ e → g1.get? c = some o → g4.get? c = some o := fun c o ce q => by
    rw [← hg4]; exact Heap.get?_push_of_some _ (sb3.extBut c o ce (sb2.extBut c o ce q))
  show wpAny _ _ (Builtin.SmallTypes.ownedTupleIsFree (.ref e) >>= _) _ _ ⟨g4, g0, d, tk + 1, os⟩
  rw [sz3]
  refine wpAny_bind ?_
  unfold Builtin.SmallTypes.ownedTupleIsFree
  refine wpAny_bind (wpAny_field eq4 rfl (x := .none) rfl (wpAny_pure ?_))
  simp only [if_true]
  refine wpAny_bind (wpAny_rule ?_)
  refine wpAny_bind (wpAny_field eq4 rfl (x := old) rfl ?_)
  refine wpAny_bind (wpAny_setField_rec eq4 (by simp) fun g5 eq5 sb5 => ?_)
  replace sb5 : Heap.SameBut e g4 g5 := sb5
  replace eq5 : IsEnum g5 e z ((i : Int) + 1) (.ref hp.objs.size) := eq5
  show wpAny _ _ (Builtin.SmallTypes.ownedTupleHandOut (.ref e) (.ref (hp.objs.size + 1)) >>= _) _ _ ⟨g5, g0, d, tk + 1, os⟩
  refine wpAny_bind ?_
  unfold Builtin.SmallTypes.ownedTupleHandOut
  refine wpAny_bind (wpAny_setField_rec eq5 (by simp) fun g6 eq6 sb6 => ?_)
  replace sb6 : Heap.SameBut e g5 g6 := sb6
  replace eq6 : IsEnumOut g6 e z ((i : Int) + 1) (.ref hp.objs.size) (hp.objs.size + 1) := eq6
  refine wpAny_setField_rec eq6 (by simp) fun g7 eq7 sb7 => ?_
  replace sb7 : Heap.SameBut e g6 g7 := sb7
  replace eq7 : IsEnumOut g7 e z ((i : Int) + 1) (.ref hp.objs.size) (hp.objs.size + 1) := eq7
  have up7 : ∀ c o, c ≠ e → g4.get? c = some o → g7.get? c = some o := fun c o ce q => sb7.extBut c o ce (sb6.extBut c o ce (sb5.extBut c o ce q))
  refine wpAny_bind (wpAny_letGo (wpAny_pure ⟨_, rfl, hQ g7 tk eq7 ?_ ?_ ?_ ?_⟩))
  · refine zp_keep Z1 fun c hc o q => up7 c o ?_ (up4 c o ?_ q)
    all_goals
      have hc : c = z ∨ c = TI ∨ c = TO ∨ c = i1 ∨ c = i2 := by simpa using hc
      rcases hc with r | r | r | r | r <;> rw [r] <;> first | exact nz.symm | exact nI.symm | exact nO.symm | exact n1.symm | exact n2.symm
  · exact up7 _ _ (Nat.ne_of_gt elt) (up4 _ _ (Nat.ne_of_gt elt) pr1)
  · exact up7 _ _ (Nat.ne_of_gt (Nat.lt_succ_of_lt elt)) tp4
  · exact fun c o c0 c1 c2 c3 c4 q => up7 c o c0 (up4 c o c0 (kk1 c o c1 c2 c3 c4 q))
theorem ez_next {e z TI TO i1 i2 a b : Addr} {i : Nat} {xs ys : Array Value} {x y old : Value} {Q : Option Value → Shared → Prop} (D : ZipApart z TI TO i1 i2 a b) (ne : e ≠ z ∧ e ≠ TI ∧ e ≠ TO ∧ e ≠ i1 ∧ e ≠ i2)
    (eq0 : IsEnum s.heap e z ((i : Nat) : Int) old) (Z : ZpS s.heap z TI TO i1 i2 a b i) (m1 : s.heap.IsList a xs) (m2 : s.heap.IsList b ys) (hx : xs[i]? = some x) (hy : ys[i]? = some y)
    (hQ : ∀ g tk, IsEnumOut g e z ((i : Int) + 1) (.ref s.heap.objs.size) (s.heap.objs.size + 1) → ZpS g z TI TO i1 i2 a b (i + 1) → IsPair g s.heap.objs.size x y →
      g.get? (s.heap.objs.size + 1) = some { cls := .type "tuple", data := .seq #[.int i tk, .ref s.heap.objs.size] } →
      (∀ c o, c ≠ e → c ≠ z → c ≠ TO → c ≠ i1 → c ≠ i2 → s.heap.get? c = some o → g.get? c = some o) → Q (some (.ref (s.heap.objs.size + 1))) { s with heap := g, toks := tk + 1 }) :
    wpAny (model prog w) A (pyNext (.ref e)) Q E s := by
  have hTy : s.TypeIs (.ref e) "enumerate" := ⟨_, eq0, rfl⟩
  unfold pyNext
  exact wpAny_bind (wpAny_attempt (wpAny_callSpecial?_slot (name := Str.ofString "__next__") hTy F.slot_enumerate_next (wpAny_call_entry F.slot_enumerate_next hTy F.entry_enumerate_next
    (ez_item D ne eq0 Z m1 m2 hx hy fun g tk a b c d k => wpAny_pure (hQ g tk a b c d k)) (F.args_enumerate_next_1 _))))
theorem ez_stop {e z TI TO i1 i2 a b : Addr} {i : Nat} {xs ys : Array Value} {old : Value} {Q : Option Value → Shared → Prop} (hh : A.in1.handled = none) (D : ZipApart z TI TO i1 i2 a b)
    (eq0 : IsEnum s.heap e z ((i : Nat) : Int) old) (Z : ZpS s.heap z TI TO i1 i2 a b i) (m1 : s.heap.IsList a xs) (m2 : s.heap.IsList b ys) (hend : xs[i]? = none ∨ ys[i]? = none)
    (hQ : ∀ g, (∀ c o, c ≠ z → c ≠ TO → c ≠ i1 → c ≠ i2 → s.heap.get? c = some o → g.get? c = some o) → Q none { s with heap := g }) :
    wpAny (model prog w) A (pyNext (.ref e)) Q E s := by
  have hTy : s.TypeIs (.ref e) "enumerate" := ⟨_, eq0, rfl⟩
  unfold pyNext
  refine wpAny_bind (wpAny_attempt (wpAny_callSpecial?_slot (name := Str.ofString "__next__") hTy F.slot_enumerate_next (wpAny_call_entry F.slot_enumerate_next hTy F.entry_enumerate_next ?_ (F.args_enumerate_next_1 _))))
  show wpAny _ _ (field (.ref e) 2 >>= _) _ _ s
  refine wpAny_bind (wpAny_field eq0 rfl (x := .ref z) rfl ?_)
  refine wpAny_bind (zp_stop hh D Z m1 m2 hend fun g x kk hx => ?_)
  obtain ⟨o, ho, hc⟩ := hx
  refine wpAny_bind (wpAny_isInstance (T := "StopIteration") (b := true) ⟨o, ho, hc⟩ isSubtype_stop ?_)
  exact wpAny_pure (hQ g kk)
end
/-- the lists at a and b, each pair of items in a new tuple beside its place in a new tuple -/
def ItEz (K : PySem.W.Frag) (a b : Addr) : It :=
  ⟨fun i H => ∃ xs ys x y, SqL K H a xs ∧ SqL K H b ys ∧ xs[i]? = some x ∧ ys[i]? = some y,
   fun i H v H' => ∃ T1 T x y, v = .ref T ∧ H T1 = none ∧ H T = none ∧ T ≠ T1 ∧ H' = upd (upd H T1 (.tup [x, y])) T (.tup [.int (i : Nat), .ref T1]) ∧ (∀ xs, SqL K H a xs → xs[i]? = some x) ∧ ∀ ys, SqL K H b ys → ys[i]? = some y,
   fun i H => ∃ xs ys, SqL K H a xs ∧ SqL K H b ys ∧ (xs.length ≤ i ∨ ys.length ≤ i)⟩
section
variable {X : Cx} {pins : List (Addr × Obj)} {σ : SS} {H : Hp} {s : Shared} {h' : Heap}
theorem turnedNew2 {t' : Nat} {ch : List Addr} {T1 T2 : Addr} {o1 o2 : HO} (I : Inv X pins σ H s) (k : ∀ b o, b ∉ ch → s.heap.get? b = some o → h'.get? b = some o) (hf : ∀ b ∈ ch, FpOk X pins H b) (l1 : s.heap.objs.size ≤ T1) (l2 : s.heap.objs.size ≤ T2) (n12 : T2 ≠ T1)
    (new1 : ObjOk X.prog X.w (upd H T1 o1) h' T1 o1) (new2 : ObjOk X.prog X.w (upd (upd H T1 o1) T2 o2) h' T2 o2) : Inv X pins σ (upd (upd H T1 o1) T2 o2) { s with heap := h', toks := t' } := by
  have m1 : H T1 = none := I.hok.fresh l1
  have m2 : H T2 = none := I.hok.fresh l2
  have m3 : upd H T1 o1 T2 = none := by rw [upd_ne n12]; exact m2
  have nit : ∀ b u, H b = some u → b ∉ ch := fun b u e z => by
    have q := (hf b z).1
    rw [q] at e; cases e
  have same : ∀ b u, H b = some u → upd (upd H T1 o1) T2 o2 b = some u := fun b u e => by rw [upd_ne (ne_of_none e m2), upd_ne (ne_of_none e m1)]; exact e
  refine I.step (g' := s.gens) (d' := s.drawn) (ch := ch) (fun b hb => let q := hf b hb; ⟨q.2.2.2.1, q.2.1, q.2.2.2.2.1, q.2.2.2.2.2⟩) (fun b o _ _ hc e _ => k b o hc e) (fun b o _ _ hc e _ => ⟨o.slots, k b o hc e⟩)
    (fun b o _ e n => ?_) (fun b o hc e => ⟨o, k b o hc e⟩) (fun b xs e => same _ _ e) (fun b o u e => same _ _ e) (fun b ps e => ⟨#[], ?_⟩) (fun m hm => ?_) (fun b u e => ?_) I.bare
  · rw [upd_ne (Nat.ne_of_lt (Nat.lt_of_lt_of_le (Heap.lt_size e) l2)), upd_ne (Nat.ne_of_lt (Nat.lt_of_lt_of_le (Heap.lt_size e) l1))]; exact n
  · rw [same _ _ e] <;> simp
  · obtain ⟨o, es, ep, ho, r⟩ := hm
    exact ⟨o, es, ep, k _ o (fun z => (hf _ z).2.1 rfl) ho, r⟩
  · by_cases hb : b = T2
    · subst hb
      rw [upd_same] at e
      cases e
      exact new2
    · rw [upd_ne hb] at e
      have st1 : ∀ c xs, upd H T1 o1 c = some xs → upd (upd H T1 o1) T2 o2 c = some xs := fun c xs q => by rw [upd_ne (ne_of_none q m3)]; exact q
      by_cases hb1 : b = T1
      · subst hb1
        rw [upd_same] at e
        cases e
        exact new1.stay (fun c v _ q => q) (fun c q => st1 _ _ q) fun c xs q => st1 _ _ q
      · rw [upd_ne hb1] at e
        refine (I.hok b u e).stay (fun c v hc q => k c v ?_ q) (fun c q => same _ _ q) fun c xs q => same _ _ q
        rcases hc with z | z
        · rw [z]; exact nit b u e
        · exact nit c _ z
end
theorem turn_ez {P : Program} {w : World} {K : PySem.W.Frag} {elts : List Expr} {kk : Nat} {tpos : Pos} {a b e z TI TO i1 i2 : Addr} (D : ZipApart z TI TO i1 i2 a b) (ne : e ≠ z ∧ e ≠ TI ∧ e ≠ TO ∧ e ≠ i1 ∧ e ≠ i2) :
    Turn P w K (.Tuple elts kk tpos) (ItEz K a b) [e, z, TI, TO, i1, i2] e (fun i h => (∃ old, IsEnum h e z ((i : Nat) : Int) old) ∧ ZpS h z TI TO i1 i2 a b i) where
  mem := by simp
  obj := fun i h st c hc => by
    obtain ⟨⟨old, he⟩, qI, ⟨x, y, qO⟩, ⟨o1, e1, _, d1⟩, ⟨o2, e2, _, d2⟩, v, f, zq, _⟩ := st
    have e' : c = e ∨ c = z ∨ c = TI ∨ c = TO ∨ c = i1 ∨ c = i2 := by simpa using hc
    rcases e' with q | q | q | q | q | q
    · rw [q]; exact ⟨_, he, fun v q => nomatch q⟩
    · rw [q]; exact ⟨_, zq, fun v q => nomatch q⟩
    · rw [q]; exact ⟨_, qI, fun v q => nomatch q⟩
    · rw [q]; exact ⟨_, qO, fun v q => nomatch q⟩
    · rw [q]; exact ⟨o1, e1, fun v q => (by rw [d1] at q; cases q)⟩
    · rw [q]; exact ⟨o2, e2, fun v q => (by rw [d2] at q; cases q)⟩
  keep := fun i h h' st k => by
    obtain ⟨⟨old, he⟩, Z⟩ := st
    exact ⟨⟨old, k e (by simp) _ he⟩, zp_keep Z fun c hc o q => k c (List.mem_cons_of_mem _ hc) o q⟩
  item := by
    intro X hP hw hK hc i pins s σ H E I hf st hg
    subst hP hw hK
    obtain ⟨⟨old, he⟩, Z⟩ := st
    obtain ⟨xs, ys, x, y, hqx, hqy, hx, hy⟩ := hg
    obtain ⟨its, rv, p, _⟩ := I.list hqx
    obtain ⟨its2, rv2, p2, _⟩ := I.list hqy
    obtain ⟨u, hu, ru⟩ := rv.get hx
    obtain ⟨u2, hu2, ru2⟩ := rv2.get hy
    have elt : e < s.heap.objs.size := Heap.lt_size he
    refine ez_next D ne he Z p.isList p2.isList (x := u) (y := u2) (by simpa using hu) (by simpa using hu2) fun g tk out Z' pr tp hk => ?_
    refine ⟨_, rfl, wpAny_letOwnedTupleGo_enum (s := { s with heap := g, toks := tk + 1 }) out fun g2 he2 sb => ?_⟩
    have pr2 : IsPair g2 s.heap.objs.size u u2 := (sb.2 _ (Nat.ne_of_gt elt)).trans pr
    have tp2 : g2.get? (s.heap.objs.size + 1) = some { cls := .type "tuple", data := .seq #[.int i tk, .ref s.heap.objs.size] } := (sb.2 _ (Nat.ne_of_gt (Nat.lt_succ_of_lt elt))).trans tp
    have new1 : ObjOk X.prog X.w (upd H s.heap.objs.size (.tup [x, y])) g2 s.heap.objs.size (.tup [x, y]) := ⟨(by show 2 ≤ sizeLine; decide), [u, u2], .cons ru (.cons ru2 .nil), ⟨_, pr2, rfl, _, rfl⟩⟩
    have new2 : ObjOk X.prog X.w (upd (upd H s.heap.objs.size (.tup [x, y])) (s.heap.objs.size + 1) (.tup [.int (i : Nat), .ref s.heap.objs.size])) g2 (s.heap.objs.size + 1) (.tup [.int (i : Nat), .ref s.heap.objs.size]) :=
      ⟨(by show 2 ≤ sizeLine; decide), [.int i tk, .ref s.heap.objs.size], .cons ⟨_, rfl⟩ (.cons rfl .nil), ⟨_, tp2, rfl, _, rfl⟩⟩
    have I1 := turnedNew2 (t' := tk + 1) (h' := g2) (ch := [e, z, TI, TO, i1, i2]) I (fun c o hb q => (sb.2 c (fun q' => hb (by simp [q']))).trans (hk c o (fun q' => hb (by simp [q'])) (fun q' => hb (by simp [q'])) (fun q' => hb (by simp [q'])) (fun q' => hb (by simp [q'])) (fun q' => hb (by simp [q'])) q)) hf (Nat.le_refl _) (Nat.le_succ _) (Nat.succ_ne_self _) new1 new2
    refine ⟨.ref (s.heap.objs.size + 1), _, I1, rfl, ⟨_, _, x, y, rfl, I.hok.fresh (Nat.le_refl _), I.hok.fresh (Nat.le_succ _), Nat.succ_ne_self _, rfl, fun l hl => by rw [I.list_inj hl hqx]; exact hx, fun l hl => by rw [I.list_inj hl hqy]; exact hy⟩, ⟨⟨_, he2⟩, ?_⟩, fun c hcm => ?_⟩
    · refine zp_keep Z' fun c hc o q => (sb.2 c ?_).trans q
      have hc : c = z ∨ c = TI ∨ c = TO ∨ c = i1 ∨ c = i2 := by simpa using hc
      obtain ⟨nz, nI, nO, n1, n2⟩ := ne
      rcases hc with r | r | r | r | r <;> rw [r] <;> first | exact nz.symm | exact nI.symm | exact nO.symm | exact n1.symm | exact n2.symm
    · have hlt : c < s.heap.objs.size := by
        obtain ⟨qI, ⟨x, y, qO⟩, ⟨o1, e1, _, d1⟩, ⟨o2, e2, _, d2⟩, v, f, zq, _⟩ := Z
        have e' : c = e ∨ c = z ∨ c = TI ∨ c = TO ∨ c = i1 ∨ c = i2 := by simpa using hcm
        rcases e' with q | q | q | q | q | q
        · rw [q]; exact elt
        · rw [q]; exact Heap.lt_size zq
        · rw [q]; exact Heap.lt_size qI
        · rw [q]; exact Heap.lt_size qO
        · rw [q]; exact Heap.lt_size e1
        · rw [q]; exact Heap.lt_size e2
      rw [upd_ne (Nat.ne_of_lt (Nat.lt_succ_of_lt hlt)), upd_ne (Nat.ne_of_lt hlt)]
      exact (hf c hcm).1
  done := by
    intro X hP hw hK hc i pins s σ H E I hf st hg
    subst hP hw hK
    obtain ⟨⟨old, he⟩, Z⟩ := st
    obtain ⟨xs, ys, hqx, hqy, hend⟩ := hg
    obtain ⟨its, rv, p, _⟩ := I.list hqx
    obtain ⟨its2, rv2, p2, _⟩ := I.list hqy
    have l1 := rv.length
    have l2 := rv2.length
    have hen : its.toArray[i]? = none ∨ its2.toArray[i]? = none := by
      rcases hend with q | q
      · exact .inl (by simp; omega)
      · exact .inr (by simp; omega)
    exact ez_stop (I.ok.hd hc) D he Z p.isList p2.isList hen fun g hk => ⟨rfl, I.turnedL (t' := s.toks) (ch := [e, z, TI, TO, i1, i2]) (fun c o hb q =>
      hk c o (fun q' => hb (by simp [q'])) (fun q' => hb (by simp [q'])) (fun q' => hb (by simp [q'])) (fun q' => hb (by simp [q'])) q) hf⟩
  self := fun A i s Q E st h => let ⟨⟨_, he⟩, _⟩ := st; wpAny_pyIter_enum he h
/-- enumerate of something that is its own iterator -/
theorem meets_enumS {v : Value} {S : Shared → Prop} (hs : ∀ (prog : Program) (w : World) (A : Around) (E : Value → Shared → Prop) (Q : Value → Shared → Prop) (s : Shared), S s → Q v s → wpAny (model prog w) A (pyIter v) Q E s) :
    Meets (Builtin.«enumerate.__new__» ⟨[.type "enumerate", v], []⟩) (fun _ R s => S s ∧
      R (.ok (.ret (.ref s.heap.objs.size))) { s with heap := s.heap.push { cls := .type "enumerate", data := .fields #[.none, .bool false, v, rawInt 0, .none, .none] } }) :=
  .of_wp fun prog w A R s h => by
    obtain ⟨hp, g, d, tk, os⟩ := s
    obtain ⟨h1, h⟩ := h
    have hsub := sub_enumerate
    have q1 : ∀ {A' : Around} {E : Value → Shared → Prop} {Q : Value → Shared → Prop}, Q v ⟨hp, g, d, tk, os⟩ → wpAny (model prog w) A' (pyIter v) Q E ⟨hp, g, d, tk, os⟩ :=
      fun q => hs prog w _ _ _ _ h1 q
    wp_walk using q1
    refine wpAny_stack_any fun st => wpAny_pure ?_
    split
    · rename_i c _ _ _ _ _
      cases (c == Value.type "enumerate")
      · wp_walk using q1
        exact ⟨_, rfl, h⟩
      · wp_walk using q1
        exact ⟨_, rfl, h⟩
    · wp_walk using q1
      exact ⟨_, rfl, h⟩
theorem call_enumS {prog : Program} {w : World} {A : Around} {E : Value → Shared → Prop} {s : Shared} {v : Value} {S : Shared → Prop} {Q : Value → Shared → Prop} (hs : ∀ (prog : Program) (w : World) (A : Around) (E : Value → Shared → Prop) (Q : Value → Shared → Prop) (s : Shared), S s → Q v s → wpAny (model prog w) A (pyIter v) Q E s) (h1 : S s)
    (h : ∀ g, g.get? s.heap.objs.size = some { cls := .type "enumerate", dict := none, data := .fields #[.none, .bool false, v, rawInt 0, .none, .none], slots := #[] } → (∀ b o, s.heap.get? b = some o → g.get? b = some o) → Q (.ref s.heap.objs.size) { s with heap := g }) :
    wpAny (model prog w) A (call (.type "enumerate") [v]) Q E s := by
  refine callType_new F.called_enumerate (by decide) (F.typeCall_enumerate_1 _) (F.newCall_enumerate_1 _) (fun obj => F.args_object_init_2 obj _) F.entry_enumerate_new (meets_enumS hs) ⟨h1, ?_⟩
  have he := Heap.get?_push_size s.heap (o := { cls := .type "enumerate", data := .fields #[.none, .bool false, v, rawInt 0, .none, .none] }) rfl
  exact ⟨⟨_, he, rfl⟩, h _ he fun b o x => Heap.get?_push_of_some _ x⟩
def iEz (K : PySem.W.Frag) (ta : TA) : TI := fun σ H R => ta σ H fun vs H1 => ∃ a b xs ys, vs = [.ref a, .ref b] ∧ SqL K H1 a xs ∧ SqL K H1 b ys ∧ R (ItEz K a b) H1
theorem pi_ez {X : Cx} {e e2 : Expr} {ta : TA} {p p2 q pos tpos : Pos} {elts : List Expr} {kk : Nat} (hg : Gl X "enumerate") (hm : X.mg "enumerate" = none) (hg2 : Gl X "zip") (hm2 : X.mg "zip" = none) (ha : PA X [e, e2] ta)
    (na : starEach [.Call (.Name "zip" p2) [e, e2] [] q] X.env = (false, eval (.Call (.Name "zip" p2) [e, e2] [] q) X.env) :: starEach [] X.env := by rfl)
    (hs : starEach [e, e2] X.env = (false, eval e X.env) :: starEach [e2] X.env := by rfl) (hpl : (backTo q (starEach [e2] X.env)).any (·.1) = false := by rfl) :
    PI X (.Tuple elts kk tpos) (.Call (.Name "enumerate" p) [.Call (.Name "zip" p2) [e, e2] [] q] [] pos) (iEz X.K ta) := by
  refine ⟨fun pins s σ H R I h => ?_⟩
  refine Call_ (ld_blt I hg hm boot_enumerate ?_)
  refine PyProof.Rows.callWith_type1 (PyProof.Rows.args_cons ?_ na) na rfl
  refine Call_ (ld_blt I hg2 hm2 PyProof.Rows.boot_zip (PyProof.Rows.callWith_type1 (thn (ha.run q pins s σ H _ I h) fun us s1 ⟨vs, H1, I1, r1, q1⟩ => ?_) hs hpl))
  obtain ⟨a, b, xs, ys, ex, hqx, hqy, q1⟩ := q1
  subst ex
  cases r1 with
  | cons r rr =>
  cases rr with
  | cons r' rr =>
  cases rr
  cases r
  cases r'
  obtain ⟨its, rv, p1, _⟩ := I1.list hqx
  obtain ⟨its2, rv2, p2', _⟩ := I1.list hqy
  have la : a < s1.heap.objs.size := p1.lt
  have lb : b < s1.heap.objs.size := p2'.lt
  refine call_zip_2 p1.isList p2'.isList fun h' hz hTI hTO h1 h2 hsz hk => PyProof.Rows.args_nil ?_
  refine call_enumS (s := { s1 with heap := h' }) (v := .ref (s1.heap.objs.size + 4)) (S := fun s => IsZip s.heap (s1.heap.objs.size + 4) (s1.heap.objs.size + 2) (s1.heap.objs.size + 3) .none) (fun prog w A E Q s z q => wpAny_pyIter_zip z q) hz fun g he kg => ?_
  have hsz : h'.objs.size = s1.heap.objs.size + 5 := hsz
  replace he : IsEnum g (s1.heap.objs.size + 5) (s1.heap.objs.size + 4) ((0 : Nat) : Int) .none := by rw [← hsz]; exact he
  show wpAny _ _ (pyIter (.ref h'.objs.size)) _ _ _
  rw [hsz]
  refine wpAny_pyIter_enum he ?_
  have I2 : Inv X pins σ H1 { s1 with heap := g } := I1.kept (t' := s1.toks) fun c o e => kg c o (hk c o e)
  have apt : s1.heap.objs.size + 5 ≠ s1.heap.objs.size + 4 ∧ s1.heap.objs.size + 5 ≠ s1.heap.objs.size + 2 ∧ s1.heap.objs.size + 5 ≠ s1.heap.objs.size + 3 ∧ s1.heap.objs.size + 5 ≠ s1.heap.objs.size ∧ s1.heap.objs.size + 5 ≠ s1.heap.objs.size + 1 := by omega
  refine ⟨s1.heap.objs.size + 5, [s1.heap.objs.size + 5, s1.heap.objs.size + 4, s1.heap.objs.size + 2, s1.heap.objs.size + 3, s1.heap.objs.size, s1.heap.objs.size + 1], _, _, H1, rfl, I2, turn_ez (PySem.W.ktu_apart s1.heap.objs.size a b la lb) apt,
    ⟨⟨.none, he⟩, kg _ _ hTI, ⟨_, _, kg _ _ hTO⟩, h1.at fun o e => kg _ o e, h2.at fun o e => kg _ o e, _, _, kg _ _ hz, .inl rfl⟩, fun c hcm => ?_, q1⟩
  have hle : s1.heap.objs.size ≤ c := by
    have hcm : c = s1.heap.objs.size + 5 ∨ c = s1.heap.objs.size + 4 ∨ c = s1.heap.objs.size + 2 ∨ c = s1.heap.objs.size + 3 ∨ c = s1.heap.objs.size ∨ c = s1.heap.objs.size + 1 := by simpa using hcm
    rcases hcm with r | r | r | r | r | r <;> rw [r] <;> first | exact Nat.le_add_right _ _ | exact Nat.le_refl _
  exact I1.fpOk hle (I1.hok.fresh hle)
section
variable {P : Pk} {T T' : Addr → Prop} {σ : SS} {ρ ρ' : En} {H H' : Hp}
theorem walk_ez {K : PySem.W.Frag} {a b : Addr} {xs ys : List V} {ds es : List D} (hr : Rd H a (.lst xs)) (ho : ¬ Own σ ρ a) (ha : RepA (Av P T σ ρ) H xs ds) (hr2 : Rd H b (.lst ys)) (ho2 : ¬ Own σ ρ b) (ha2 : RepA (Av P T σ ρ) H ys es) : Walk P T σ ρ H (ItEz K a b) (enD 0 (zipD ds es)) where
  go := fun i H' k hi => by
    rw [enD_len, zipD_len, ← ha.length, ← ha2.length] at hi
    have h1 : i < xs.length := by omega
    have h2 : i < ys.length := by omega
    exact ⟨xs, ys, xs[i], ys[i], .inl (rd_keep hr ho k), .inl (rd_keep hr2 ho2 k), by simp [h1], by simp [h2]⟩
  yld := fun i H' k hi x H2 y => by
    obtain ⟨t1, t, x0, y0, e1, hn1, hn, ht, e2, y1, y2⟩ := y
    subst e1 e2
    obtain ⟨d, e3, r1⟩ := ha.get (y1 xs (.inl (rd_keep hr ho k)))
    obtain ⟨e, e4, r2⟩ := ha2.get (y2 ys (.inl (rd_keep hr2 ho2 k)))
    have hn2 : upd H' t1 (.tup [x0, y0]) t = none := by rw [upd_ne ht]; exact hn
    have old : ∀ c o, H' c = some o → upd (upd H' t1 (.tup [x0, y0])) t (.tup [.int (i : Nat), .ref t1]) c = some o := fun c o q => by
      rw [upd_ne (ne_of_none q hn), upd_ne (ne_of_none q hn1)]; exact q
    have up : ∀ c o, Av P T σ ρ c → H c = some o → ((Av P T σ ρ c ∧ ∃ o, H c = some o) ∨ H' c = none) ∧ upd (upd H' t1 (.tup [x0, y0])) t (.tup [.int (i : Nat), .ref t1]) c = some o := fun c o z e => ⟨.inl ⟨z, o, e⟩, old c o (k c o e z.2.1)⟩
    refine ⟨old, _, by rw [enD_get _ 0 i _ (zipD_get ds es i d e e3 e4), Nat.zero_add], .tup (.inr hn) upd_same (.cons (.int _) (.cons (.tup (.inr hn1) ?_ (.cons (r1.mono up) (.cons (r2.mono up) .nil))) .nil))⟩
    rw [upd_ne ht.symm]; exact upd_same
  stop := fun H' k => ⟨xs, ys, .inl (rd_keep hr ho k), .inl (rd_keep hr2 ho2 k), by
    rw [enD_len, zipD_len, ← ha.length, ← ha2.length]
    omega⟩
end
def fiez (fs : Fa) : Fi := fun ρ => (fs ρ).bind fun x => (datA x.2 x.1).bind fun ds => (relA x.2 x.1).bind fun ρ2 => match ds with
  | [.list xs, .list ys] => some (enD 0 (zipD xs ys), ρ2)
  | _ => none
theorem di_ez {X : Cx} {e e2 : Expr} {fs : Fa} {p p2 q pos tpos : Pos} {elts : List Expr} {kk : Nat} (hg : Gl X "enumerate") (hm : X.mg "enumerate" = none) (hg2 : Gl X "zip") (hm2 : X.mg "zip" = none) (ha : DA X [e, e2] fs)
    (na : starEach [.Call (.Name "zip" p2) [e, e2] [] q] X.env = (false, eval (.Call (.Name "zip" p2) [e, e2] [] q) X.env) :: starEach [] X.env := by rfl)
    (hs : starEach [e, e2] X.env = (false, eval e X.env) :: starEach [e2] X.env := by rfl) (hpl : (backTo q (starEach [e2] X.env)).any (·.1) = false := by rfl) :
    DI X (.Tuple elts kk tpos) (.Call (.Name "enumerate" p) [.Call (.Name "zip" p2) [e, e2] [] q] [] pos) (fiez fs) := by
  intro P T σ ρ H items ρ' S hf R qq
  simp only [fiez, Option.bind_eq_some_iff] at hf
  obtain ⟨⟨rs, ρ1⟩, e1, ds, e2', ρ2, e3, e4⟩ := hf
  have upA : ∀ {ρ1 ρ2 : En} {H1 : Hp} {T1 : Addr → Prop} {xs : List V} {es : List D}, Stp σ ρ1 H1 σ ρ2 H1 → RepA (Av P T1 σ ρ1) H1 xs es → RepA (Av P T1 σ ρ2) H1 xs es := fun st h => h.mono (av_step st .refl)
  have upO : ∀ {ρ1 ρ2 : En} {H1 : Hp} {a : Addr} {u : HO}, Stp σ ρ1 H1 σ ρ2 H1 → Rd H1 a u → ¬ Own σ ρ1 a → ¬ Own σ ρ2 a := fun st hr ho z => by
    rcases st.os _ z with z | z
    · exact ho z
    · obtain ⟨o, e⟩ := Rd.dom hr
      rw [z] at e; cases e
  match ds, e2', e4 with
  | [.list xs, .list ys], e2', e4 =>
    cases e4
    refine PI.wi (pi_ez hg hm hg2 hm2 paW na hs hpl) (ha P T σ ρ H rs ρ1 S e1 _ fun vs H1 T1 _ A => ?_)
    obtain ⟨v1, v2, r1, r2, ρ3, ev, er, k1, k2, k3, k4, k5, k6, S3, S4, st, st', kp⟩ := heldA2 A.val A.sim e2' e3
    obtain ⟨a, us, y1, y2, y3, y4⟩ := (k5.held A.sim k1 k3).1 _ rfl
    obtain ⟨b, ws, z1, z2, z3, z4⟩ := (k6.held S3 k2 k4).1 _ rfl
    exact ⟨a, b, us, ws, by rw [ev, y1, z1], .inl y2, .inl z2, qq _ H1 T1 S4 (A.stp.trans st) (A.kp.trans kp) A.tg (walk_ez y2 (upO st' y2 y3) (upA st' y4) z2 z3 z4)⟩
end DL
set_option Elab.async false
set_option linter.all false
set_option maxRecDepth 100000
set_option maxHeartbeats 1000000
namespace DL
open PySem PySem.Spec PyProof.Rows L2
section
variable {X : Cx} {k : Nat} {f : Addr} {fd : FuncData} {ps : List Str} {sp : Sp} {pos p2 : Pos} {a b e : Expr} {es : List Expr} {σ : SS} {H : Hp} {Q : VK}
theorem we_callV (F : FnG X.prog X.w X.K X.mg X.base CX0 k f fd ps sp) (hr : RoomG k X.A) (hk : PySem.W.keepIn X.K (.ref f) = true) (hb : Binds X.K fd ps [])
    (h : WE X (.Subscript a b p2) σ H fun v H1 => v = .ref f ∧ WA X (e :: es) σ H1 fun vs H2 => sp vs H2 Q E0)
    (he : starEach (e :: es) X.env = (false, eval e X.env) :: starEach es X.env := by rfl) (hpl : (backTo pos (starEach es X.env)).any (·.1) = false := by rfl) :
    WE X (.Call (.Subscript a b p2) (e :: es) [] pos) σ H Q := fun pins s I => by
  rw [arm_callSub]
  refine wpAny_bind (wpAny_mono (h pins s I) (fun u s1 ⟨v, H1, I1, r, hv, ha⟩ => ?_) fun _ _ x => x)
  subst hv
  cases r
  refine PySem.W.callWith_K (h₀ := X.base) I1.ok.mod.kin hk (wpAny_mono (ha pos pins s1 I1) (fun us s2 ⟨vs, H2, I2, r, q⟩ => ⟨I2.kIn, ?_⟩) fun _ _ x => x) he hpl
  have hl : (us ++ []).length = ps.length := by rw [List.append_nil, ← r.length]; exact F.many _ _ _ _ q
  have b1 := hb s2 us I2.kIn hl
  rw [List.append_nil] at b1
  refine wpAny_call (codeAny_mono (F.go hr pass0 I2 b1 r q) fun r s' hq => ?_)
  match r, hq with
  | .error e, hq => exact hq
  | .ok (.ret u), hq => exact hq
end
/-- names of defs that give values -/
inductive VFs (X : Cx) : List Expr → List V → List FS → Prop
  | nil : VFs X [] [] []
  | cons {e : Expr} {f : Addr} {fd : FuncData} {ps : List Str} {lv : Nat} {F : FS} {es : List Expr} {vs : List V} {Fs : List FS} (h : PE X e (tC (.ref f))) (FO : FnG X.prog X.w X.K X.mg X.base CX0 lv f fd ps (spD none F)) (hr : RoomG lv X.A)
    (hk : PySem.W.keepIn X.K (.ref f) = true) (hb : Binds X.K fd ps []) (t : VFs X es vs Fs) (hs : starEach (e :: es) X.env = (false, eval e X.env) :: starEach es X.env := by rfl) : VFs X (e :: es) (.ref f :: vs) (F :: Fs)
theorem VFs.nml {X : Cx} {es : List Expr} {vs : List V} {Fs : List FS} (h : VFs X es vs Fs) : NmL X es vs := by
  induction h with
  | nil => exact .nil
  | cons h _ _ _ _ _ hs ih => exact .cons h ih hs
theorem VFs.get {X : Cx} {es : List Expr} {vs : List V} {Fs : List FS} (h : VFs X es vs Fs) : ∀ {i : Nat} {F : FS}, Fs[i]? = some F → ∃ f fd ps lv, vs[i]? = some (.ref f) ∧ FnG X.prog X.w X.K X.mg X.base CX0 lv f fd ps (spD none F) ∧ RoomG lv X.A ∧ PySem.W.keepIn X.K (.ref f) = true ∧ Binds X.K fd ps [] := by
  induction h with
  | nil => intro i F e; simp at e
  | cons h FO hr hk hb _ hs ih =>
    intro i F e
    cases i with
    | zero => cases e; exact ⟨_, _, _, _, rfl, FO, hr, hk, hb⟩
    | succ i => exact ih (by simpa using e)
def fcix (Fs : List FS) (k : Fe) (fs : Fa) : Fe := fun ρ => (k ρ).bind fun z => match z.1 with
  | .sh (.int i) => if 0 ≤ i then (Fs[i.toNat]?).bind fun F => fcall none F fs z.2 else none
  | _ => none
theorem de_callIx {X : Cx} {es : List Expr} {vs : List V} {Fs : List FS} {k e : Expr} {as : List Expr} {fk : Fe} {fs : Fa} {p1 p2 pos : Pos} (hX : VFs X es vs Fs) (hk : DE X k fk) (ha : DA X (e :: as) fs) (hl : vs.length ≤ 1000 := by simp)
    (hs : PlainIx k := by intro _ _; rfl) (he : starEach (e :: as) X.env = (false, eval e X.env) :: starEach as X.env := by rfl) (hpl : (backTo pos (starEach as X.env)).any (·.1) = false := by rfl) :
    DE X (.Call (.Subscript (.List es p1) k p2) (e :: as) [] pos) (fcix Fs fk fs) := by
  intro P T σ ρ H rv ρ' S hf Q q
  simp only [fcix, Option.bind_eq_some_iff] at hf
  obtain ⟨⟨r, ρ1⟩, e1, e2⟩ := hf
  match r, e2 with
  | .sh (.int i), e2 =>
    simp only at e2
    by_cases hi : 0 ≤ i
    · rw [if_pos hi] at e2
      simp only [Option.bind_eq_some_iff] at e2
      obtain ⟨F, e3, e4⟩ := e2
      simp only [fcall, Option.bind_eq_some_iff] at e4
      obtain ⟨⟨rs, ρ2⟩, h1, ds, h2, fr, h3, h4⟩ := e4
      obtain ⟨f, fd, ps, lv, hv, FO, hr, hkp, hb⟩ := hX.get e3
      refine we_callV FO hr hkp hb (PE.we (pe_ix ix_seq (pe_lst hX.nml.pa) peW hs) ?_) he hpl
      refine ⟨small_of (by omega), fun p hp => ?_⟩
      obtain ⟨S1, st1⟩ := S.allocT (o := .lst vs) hp
      refine hk P T σ ρ (upd H p (.lst vs)) _ ρ1 S1 e1 _ fun v H1 T1 A => ?_
      have hnown : ¬ Own σ ρ p := fun z => by
        obtain ⟨o, e⟩ := own_dom S z
        rw [hp] at e; cases e
      have eT : T1 = T := A.tx
      subst eT
      have hvi : v = .int i := by
        obtain ⟨_, _, _, tx, vl⟩ := A
        cases (show Rep _ _ _ _ from vl)
        rfl
      have hlt := (List.getElem?_eq_some_iff.mp hv).1
      refine .inl ⟨p, vs, i, .ref f, rfl, hvi, .inl (.inl (A.stp.fr p _ upd_same hnown)), ?_, rfl, ?_⟩
      · unfold atI ixN
        rw [if_pos hi, if_pos (by omega)]
        exact hv
      · refine ha P _ σ ρ1 H1 rs ρ2 A.sim h1 _ fun us H2 T2 _ A2 => call_core A.sim A2 h2 h3 h4 fun v' H' T' A3 => q v' H' T' (Aft.back (st1.trans A.stp) A.kp A3)
    · rw [if_neg hi] at e2; cases e2
end DL
set_option Elab.async false
set_option linter.all false
set_option maxRecDepth 100000
set_option maxHeartbeats 4000000
namespace Id
open PySem PySem.Spec PyProof.Rows L2 DL Sh
local macro_rules | `(tactic| infer_instance) => `(tactic| ((with_reducible apply op2_it); exact rfl; exact rfl; with_reducible assumption))
def F_idle_calls : FS := toF 2 6 none (fseq (fset [2] (f1 (fcall none F_pairings_along (fcons (fvar 0) (fcons (fvar 1) fnil)))))
    (fret (flc [3, 4, 5] (fiez (fcons (fvar 2) (fcons (fslice (fvar 2) (fosome (fc (.int 1))) fonone) fnil))) (btup 2 (bcons (bname 3) (bcons (btup 2 (bcons (bname 4) (bcons (bname 5) bnil))) bnil))) (fbool (fop2 gEq (fvar 4) (fvar 5))) (fvar 3))))
theorem calls_snoc {n a b : Nat} {ps : List (Nat × Nat)} (h : CallsOk n ps) (hab : a < b) (hb : b < n) : CallsOk n (ps ++ [(a, b)]) := fun c hc => (List.mem_append.mp hc).elim (h c) fun z => by rw [List.mem_singleton.mp z]; exact ⟨hab, hb⟩
theorem exi_ez {fs : Fa} {ρ : En} {QI : List D → En → Prop} (k : ExA fs ρ fun rs ρ1 => SeqQ ρ1 rs fun ds ρ2 => ∃ xs ys, ds = [.list xs, .list ys] ∧ QI (enD 0 (zipD xs ys)) ρ2) : ExI (fiez fs) ρ QI := by
  obtain ⟨rs, ρ1, e1, ds, ρ2, e2, e3, xs, ys, rfl, k⟩ := k
  exact ⟨_, _, by simp only [fiez, e1, Option.bind_some, e2, e3], k⟩
def ledK (p : List Nat) (ps : List (Nat × Nat)) (i : Nat) : List Nat := ledP p (ps.take i)
def idleL (p : List Nat) (ps : List (Nat × Nat)) : List Nat := (List.range ps.length).filter fun i => decide (ledK p ps i = ledK p ps (i + 1))
theorem enz {L : List (List Nat)} : ∀ {M : List (List Nat)} (k : Nat), enD k (zipD (Ts L) (Ts M)) = (List.range (min L.length M.length)).map fun i => PyData.tuple [N (k + i), .tuple [.tuple (Ns (L.getD i [])), .tuple (Ns (M.getD i []))]] := by
  induction L with
  | nil => intro M k; cases M <;> simp [Ts, zipD, enD]
  | cons a L ih =>
    intro M k
    cases M with
    | nil => simp [Ts, zipD, enD]
    | cons b M =>
      have hm : min (a :: L).length (b :: M).length = min L.length M.length + 1 := by simp only [List.length_cons]; omega
      rw [hm, List.range_succ_eq_map, List.map_cons, List.map_map]
      show PyData.tuple [.int (k : Int), .tuple [.tuple (Ns a), .tuple (Ns b)]] :: enD (k + 1) (zipD (Ts L) (Ts M)) = _
      rw [ih (k + 1)]
      congr 1
      refine List.map_congr_left fun i _ => ?_
      simp [Nat.add_assoc, Nat.add_comm 1 i]
theorem idle_w {n : Nat} {A B : D} {p : List Nat} {ps : List (Nat × Nat)} (hA : Sq A p) (hB : Wd B ps) (J : Joined n p) (h : CallsOk n ps) (hlen : ps.length ≤ 100000) : F_idle_calls [A, B] = some ⟨true, .list (Ns (idleL p ps)), []⟩ := by
  have c1 := along_w hA hB J h hlen
  have ea : (alongP p ps).length = ps.length + 1 := by simp [alongP]
  refine Cl.eq ?_
  unfold F_idle_calls
  repeat' (first | infer_instance | fail)
  refine exi_ez ?_
  repeat' (first | infer_instance | fail)
  have ed : List.drop 1 (Ts (alongP p ps)) = Ts ((alongP p ps).drop 1) := by simp [Ts]
  refine ⟨_, _, rfl, ?_⟩
  refine lcQ (l := List.range ps.length) (enc := fun i => PyData.tuple [N i, .tuple [.tuple (Ns (ledK p ps i)), .tuple (Ns (ledK p ps (i + 1)))]]) (p := fun i => decide (ledK p ps i = ledK p ps (i + 1))) (g := N) rfl ?_ (by simp; omega) (fun x hx => ?_) ?_
  · show enD 0 (zipD (Ts (alongP p ps)) (List.drop 1 (Ts (alongP p ps)))) = _
    rw [ed, enz 0]
    have hm : min (alongP p ps).length ((alongP p ps).drop 1).length = ps.length := by rw [List.length_drop, ea]; omega
    rw [hm]
    refine List.map_congr_left fun i hi => ?_
    have hi := List.mem_range.mp hi
    have g1 : (alongP p ps).getD i [] = ledK p ps i := by
      unfold alongP ledK
      rw [List.getD_eq_getElem?_getD, List.getElem?_map, List.getElem?_range (by omega)]; rfl
    have g2 : ((alongP p ps).drop 1).getD i [] = ledK p ps (i + 1) := by
      unfold alongP ledK
      rw [List.getD_eq_getElem?_getD, List.getElem?_drop, List.getElem?_map, List.getElem?_range (by omega), Nat.add_comm 1 i]; rfl
    rw [g1, g2, Nat.zero_add]
  · repeat' (first | infer_instance | fail)
  · repeat' (first | infer_instance | fail)
    rfl
end Id
set_option Elab.async false
set_option linter.all false
set_option maxRecDepth 100000
set_option maxHeartbeats 4000000
namespace Sh
open PySem PySem.Spec PyProof.Rows L2 DL
def ExX (x : Fx) (ρ : En) (Q : Xn → En → Prop) : Prop := ∃ n ρ', x ρ = some (n, ρ') ∧ Q n ρ'
def NoX (x : Fx) (ρ : En) : Prop := x ρ = none
section
variable {ρ : En} {f : Fe} {fs : Fa} {c : Ft} {s : Fst} {x y : Fx} {d : D} {Q : Xn → En → Prop} {Nx : En → Prop} {R : RV → En → Prop} {B C : En → Prop} {G : GX}
theorem exx_seq (k : St s ρ (fun ρ1 => ExX x ρ1 Q) (fun _ _ => False) (fun _ => False) fun _ => False) : ExX (xseq s x) ρ Q := by
  obtain ⟨o, e1, k⟩ := k
  cases o with
  | nx ρ1 =>
    obtain ⟨n, ρ', e2, q⟩ := k
    exact ⟨n, ρ', by unfold xseq; rw [e1, Option.bind_some]; exact e2, q⟩
  | rt => exact k.elim
  | bk => exact k.elim
  | ct => exact k.elim
theorem exx_if (k : ExT c ρ fun t ρ1 => Two t (ExX x ρ1 Q) (ExX y ρ1 Q)) : ExX (xif c x y) ρ Q := by
  obtain ⟨t, ρ1, e1, k⟩ := k
  cases t with
  | true =>
    obtain ⟨n, ρ', e2, q⟩ := k.1 rfl
    exact ⟨n, ρ', by unfold xif; rw [e1, Option.bind_some]; exact e2, q⟩
  | false =>
    obtain ⟨n, ρ', e2, q⟩ := k.2 rfl
    exact ⟨n, ρ', by unfold xif; rw [e1, Option.bind_some]; exact e2, q⟩
def RaiQ (nm g : Str) (ρ : En) (rs : List RV) (Q : Xn → En → Prop) : Prop := ∃ d ρ2, datA ρ rs = some [d] ∧ relA ρ rs = some ρ2 ∧ Q ⟨nm, some (g, d)⟩ ρ2
theorem raiQ {nm g : Str} {rs : List RV} {ρ2 : En} (e1 : datA ρ rs = some [d]) (e2 : relA ρ rs = some ρ2) (q : Q ⟨nm, some (g, d)⟩ ρ2) : RaiQ nm g ρ rs Q := ⟨d, ρ2, e1, e2, q⟩
theorem exx_raise {nm g : Str} (k : ExA fs ρ fun rs ρ1 => RaiQ nm g ρ1 rs Q) : ExX (xraise nm g fs) ρ Q := by
  obtain ⟨rs, ρ1, e1, d, ρ2, e2, e3, q⟩ := k
  exact ⟨_, _, by unfold xraise; simp only [e1, Option.bind_some, e2, e3], q⟩
def XcQ (G : GX) (ρ : En) (rs : List RV) (Q : Xn → En → Prop) : Prop := ∃ ds n ρ2, datA ρ rs = some ds ∧ G ds = some n ∧ relA ρ rs = some ρ2 ∧ Q n ρ2
theorem xcQ {rs : List RV} {ds : List D} {n : Xn} {ρ2 : En} (e1 : datA ρ rs = some ds) (e2 : G ds = some n) (e3 : relA ρ rs = some ρ2) (q : Q n ρ2) : XcQ G ρ rs Q := ⟨_, _, _, e1, e2, e3, q⟩
theorem exx_call (k : ExA fs ρ fun rs ρ1 => XcQ G ρ1 rs Q) : ExX (xcall G fs) ρ Q := by
  obtain ⟨rs, ρ1, e1, ds, n, ρ2, e2, e3, e4, q⟩ := k
  exact ⟨_, _, by unfold xcall; simp only [e1, Option.bind_some, e2, e3, e4, Option.map_some], q⟩
theorem exx_or1 (k : ExX x ρ Q) : ExX (xor' x y) ρ Q := by
  obtain ⟨n, ρ', e, q⟩ := k
  exact ⟨n, ρ', by unfold xor'; rw [e], q⟩
theorem exx_or2 (h : NoX x ρ) (k : ExX y ρ Q) : ExX (xor' x y) ρ Q := by
  obtain ⟨n, ρ', e, q⟩ := k
  exact ⟨n, ρ', by unfold xor'; rw [show x ρ = none from h]; exact e, q⟩
theorem nox_seq (k : St s ρ (fun ρ1 => NoX x ρ1) (fun _ _ => True) (fun _ => True) fun _ => True) : NoX (xseq s x) ρ := by
  obtain ⟨o, e1, k⟩ := k
  unfold NoX xseq
  rw [e1, Option.bind_some]
  cases o with
  | nx ρ1 => exact k
  | _ => rfl
theorem nox_if (k : ExT c ρ fun t ρ1 => Two t (NoX x ρ1) (NoX y ρ1)) : NoX (xif c x y) ρ := by
  obtain ⟨t, ρ1, e1, k⟩ := k
  unfold NoX xif
  rw [e1, Option.bind_some]
  cases t with
  | true => exact k.1 rfl
  | false => exact k.2 rfl
theorem nox_no : NoX xno ρ := rfl
theorem nox_or (h : NoX x ρ) (k : NoX y ρ) : NoX (xor' x y) ρ := by
  unfold NoX xor'; rw [show x ρ = none from h]; exact k
def NcQ (G : GX) (ρ : En) (rs : List RV) : Prop := ∃ ds, datA ρ rs = some ds ∧ G ds = none
theorem ncQ {rs : List RV} {ds : List D} (e1 : datA ρ rs = some ds) (e2 : G ds = none) : NcQ G ρ rs := ⟨_, e1, e2⟩
theorem nox_call (k : ExA fs ρ fun rs ρ1 => NcQ G ρ1 rs) : NoX (xcall G fs) ρ := by
  obtain ⟨rs, ρ1, e1, ds, e2, e3⟩ := k
  unfold NoX xcall
  simp only [e1, Option.bind_some, e2, e3, Option.bind_none]
theorem toX_some {np n : Nat} {ds : List D} {ρ0 : En} {z : Xn} (hl : ds.length = np) (e0 : en0 none n ds = ρ0) (k : ExX x ρ0 fun m _ => m = z) : toX np n x ds = some z := by
  subst e0
  obtain ⟨m, ρ', e, rfl⟩ := k
  unfold toX; rw [if_pos hl, e]; rfl
theorem toX_none {np n : Nat} {ds : List D} {ρ0 : En} (hl : ds.length = np) (e0 : en0 none n ds = ρ0) (k : NoX x ρ0) : toX np n x ds = none := by
  subst e0
  unfold toX; rw [if_pos hl, show x _ = none from k]; rfl
/-- a try whose body raises -/
theorem st_tryX {cl : Str → Addr} {nms : List Str} {i j : Nat} (k : ExX x ρ fun n ρ' => n.nm ∈ nms ∧ Nx (((ρ'.set i (some (.sh, xD cl n))).set j (some (.sh, xD cl n))).set i none)) : St (ftry cl nms i j s x) ρ Nx R B C := by
  obtain ⟨n, ρ', e, h1, h2⟩ := k
  refine ⟨.nx _, ?_, h2⟩
  unfold ftry; rw [e]
  show (if n.nm ∈ nms then _ else _) = _
  rw [if_pos h1]
/-- a try whose body does not -/
theorem st_tryN {cl : Str → Addr} {nms : List Str} {i j : Nat} (h : NoX x ρ) (k : St s ρ Nx R B C) : St (ftry cl nms i j s x) ρ Nx R B C := by
  obtain ⟨o, e, k⟩ := k
  refine ⟨o, ?_, k⟩
  unfold ftry; rw [show x ρ = none from h]; exact e
end
section
variable {cl : Str → Addr} {nms ys ns : List Str} {n : Xn}
theorem any_in {l : List Str} {m : Str} (I : CInj nms cl) (hl : ∀ y ∈ l, y ∈ nms) (hm : m ∈ nms) : l.any (fun y => decide (((cl y : Nat) : Int) = ((cl m : Nat) : Int))) = decide (m ∈ l) := by
  rw [Bool.eq_iff_iff, List.any_eq_true, decide_eq_true_iff]
  constructor
  · rintro ⟨y, h1, h2⟩
    have : y = m := I y (hl y h1) m hm (Int.ofNat_inj.mp (of_decide_eq_true h2))
    subst this; exact h1
  · intro h
    exact ⟨m, h, by simp⟩
theorem gIsc_y (h : n.nm ∈ ys) : gIsc cl ys ns (xD cl n) = some (.it (.bool true)) := by
  unfold xD gIsc
  simp only
  rw [if_pos (List.any_eq_true.mpr ⟨n.nm, h, by simp⟩)]
theorem gIsc_n (I : CInj nms cl) (hy : ∀ y ∈ ys, y ∈ nms) (hm : n.nm ∈ nms) (h : n.nm ∉ ys) (h2 : n.nm ∈ ns) : gIsc cl ys ns (xD cl n) = some (.it (.bool false)) := by
  unfold xD gIsc
  simp only
  rw [any_in I hy hm, decide_eq_false h, if_neg Bool.false_ne_true, if_pos (List.any_eq_true.mpr ⟨n.nm, h2, by simp⟩)]
theorem gAtx_y {f nm : Str} {d : D} (h : nm ∈ ys) : gAtx cl ys f (xD cl ⟨nm, some (f, d)⟩) = some (.it d) := by
  unfold xD gAtx
  simp only
  rw [if_pos ⟨trivial, List.any_eq_true.mpr ⟨nm, h, by simp⟩⟩]
end
end Sh
set_option Elab.async false
set_option linter.all false
set_option maxRecDepth 100000
set_option maxHeartbeats 4000000
namespace Sh
open PySem PySem.Spec PyProof.Rows L2 DL
section
variable {ρ : En} {f : Fe} {fs : Fa} {c : Ft} {body : Fst} {xb x y : Fx} {gi : Fi} {b : Fg} {d : D} {Q : Xn → En → Prop}
def ForX (b : Fg) (body : Fst) (xb : Fx) (ds : List D) (ρ : En) (Q : Xn → En → Prop) : Prop := ∃ n ρ', xforD b body xb ds ρ = some (n, ρ') ∧ Q n ρ'
theorem exx_for (k : ExI gi ρ fun ds ρ1 => ForX b body xb ds ρ1 Q) : ExX (xfor gi b body xb) ρ Q := by
  obtain ⟨ds, ρ1, e1, n, ρ', e2, q⟩ := k
  exact ⟨n, ρ', by unfold xfor; rw [e1, Option.bind_some]; exact e2, q⟩
/-- a loop whose body raises at d -/
theorem forX {ds pre post : List D} {d : D} (I : En → Prop) (hd : ds = pre ++ d :: post) (h0 : I ρ)
    (st : ∀ e ρ, e ∈ pre → I ρ → ExG b e ρ fun ρ2 => NoX xb ρ2 ∧ St body ρ2 I (fun _ _ => False) (fun _ => False) I)
    (hit : ∀ ρ, I ρ → ExG b d ρ fun ρ2 => ExX xb ρ2 Q) : ForX b body xb ds ρ Q := by
  subst hd
  induction pre generalizing ρ with
  | nil =>
    obtain ⟨ρ1, e1, n, ρ', e2, q⟩ := hit ρ h0
    exact ⟨n, ρ', by simp only [List.nil_append, xforD, e1, Option.bind_some, e2], q⟩
  | cons e pre ih =>
    obtain ⟨ρ1, e1, nx, o, e2, k⟩ := st e ρ (by simp) h0
    have nx' : xb ρ1 = none := nx
    cases o with
    | nx ρ2 =>
      obtain ⟨n, ρ', e3, q⟩ := ih (ρ := ρ2) k fun e' ρ hm h => st e' ρ (by simp [hm]) h
      exact ⟨n, ρ', by simp only [List.cons_append, xforD, e1, Option.bind_some, nx', e2]; exact e3, q⟩
    | ct ρ2 =>
      obtain ⟨n, ρ', e3, q⟩ := ih (ρ := ρ2) k fun e' ρ hm h => st e' ρ (by simp [hm]) h
      exact ⟨n, ρ', by simp only [List.cons_append, xforD, e1, Option.bind_some, nx', e2]; exact e3, q⟩
    | bk ρ2 => exact k.elim
    | rt r ρ2 => exact k.elim
def ForN (b : Fg) (body : Fst) (xb : Fx) (ds : List D) (ρ : En) : Prop := xforD b body xb ds ρ = none
theorem nox_for (k : ExI gi ρ fun ds ρ1 => ForN b body xb ds ρ1) : NoX (xfor gi b body xb) ρ := by
  obtain ⟨ds, ρ1, e1, e2⟩ := k
  unfold NoX xfor; rw [e1, Option.bind_some]; exact e2
theorem forN {ds : List D} (I : En → Prop) (h0 : I ρ)
    (st : ∀ e ρ, e ∈ ds → I ρ → ExG b e ρ fun ρ2 => NoX xb ρ2 ∧ St body ρ2 I (fun _ _ => True) (fun _ => True) I) : ForN b body xb ds ρ := by
  induction ds generalizing ρ with
  | nil => rfl
  | cons e ds ih =>
    obtain ⟨ρ1, e1, nx, o, e2, k⟩ := st e ρ (by simp) h0
    have nx' : xb ρ1 = none := nx
    unfold ForN
    cases o with
    | nx ρ2 => simp only [xforD, e1, Option.bind_some, nx', e2]; exact ih (ρ := ρ2) k fun e' ρ hm h => st e' ρ (by simp [hm]) h
    | ct ρ2 => simp only [xforD, e1, Option.bind_some, nx', e2]; exact ih (ρ := ρ2) k fun e' ρ hm h => st e' ρ (by simp [hm]) h
    | bk ρ2 => simp only [xforD, e1, Option.bind_some, nx', e2]
    | rt r ρ2 => simp only [xforD, e1, Option.bind_some, nx', e2]
end
local macro_rules | `(tactic| infer_instance) => `(tactic| first
  | with_reducible apply exx_seq
  | with_reducible apply exx_then
  | with_reducible apply exx_if
  | with_reducible apply exx_raise
  | with_reducible apply exx_raise0
  | with_reducible apply exx_call
  | (refine raiQ (by exact rfl) (by exact rfl) ?_)
  | ((refine xcQ (by exact rfl) (by with_reducible assumption) (by exact rfl) ?_); (try dsimp only [List.set_cons_zero, List.set_cons_succ, frOf_f, frOf_t, List.cons_append, List.nil_append]))
  | with_reducible apply nox_seq
  | with_reducible apply nox_then
  | with_reducible apply nox_if
  | with_reducible exact nox_no
  | with_reducible apply nox_or
  | with_reducible apply nox_call
  | (exact ncQ (by exact rfl) (by with_reducible assumption))
  | ((with_reducible apply toX_some); exact rfl; (simp +decide only [en0, enA, List.length_cons, List.length_nil, List.cons_append, List.nil_append, List.replicate, ↓reduceIte, Nat.reduceAdd, Nat.reduceSub, Nat.zero_add] <;> exact rfl))
  | ((with_reducible apply toX_none); exact rfl; (simp +decide only [en0, enA, List.length_cons, List.length_nil, List.cons_append, List.nil_append, List.replicate, ↓reduceIte, Nat.reduceAdd, Nat.reduceSub, Nat.zero_add] <;> exact rfl))
  | ((with_reducible apply op1_it); exact rfl; with_reducible assumption)
  | ((with_reducible apply op1_it); exact rfl; with_reducible exact gIsc_0))
def G_look_person : GX := toX 2 2 (xif (fnotT (fbool (fchain gLe gLt (fc (.int 0)) (fvar 1) (fvar 0)))) (xraise "NoPerson" "person" (fcons (fvar 1) fnil)) xno)
def G_look_call : GX := toX 2 3 (xfor (fiseq (fvar 1)) (bname 2) (fdrop (fcall none F_look_person (fcons (fvar 0) (fcons (fvar 2) fnil)))) (xcall G_look_person (fcons (fvar 0) (fcons (fvar 2) fnil))))
def G_look_word : GX := toX 2 3 (xfor (fiseq (fvar 1)) (bname 2) (fdrop (fcall none F_look_call (fcons (fvar 0) (fcons (fvar 2) fnil)))) (xcall G_look_call (fcons (fvar 0) (fcons (fvar 2) fnil))))
def G_sheet_of : GX := toX 2 4 (xcall G_look_word (fcons (fvar 0) (fcons (fvar 1) fnil)))
abbrev NoP (w : Int) : Xn := ⟨"NoPerson", some ("person", .int w)⟩
theorem person_x {n : Nat} {w : Int} (h : ¬ (0 ≤ w ∧ w < (n : Int))) : G_look_person [N n, .int w] = some (NoP w) := by
  unfold G_look_person
  infer_instance
  repeat' (first | infer_instance | fail)
  · exact chQ rfl rfl rfl rfl
  · exact chQ rfl rfl rfl rfl
  · rename_i q
    exact absurd ⟨of_decide_eq_true q.1, of_decide_eq_true q.2⟩ h
theorem person_n {n x : Nat} (h : x < n) : G_look_person [N n, N x] = none := by
  unfold G_look_person
  infer_instance
  repeat' (first | infer_instance | fail)
theorem call_x0 {n : Nat} {w : Int} {ds : List D} (h : ¬ (0 ≤ w ∧ w < (n : Int))) : G_look_call [N n, .tuple (.int w :: ds)] = some (NoP w) := by
  have c1 := person_x h
  unfold G_look_call
  infer_instance
  refine exx_for ?_
  repeat' (first | infer_instance | fail)
  refine forX (pre := []) (d := .int w) (post := ds) (fun ρ => ρ = [sh (N n), sh (.tuple (.int w :: ds)), none]) rfl rfl (fun e ρ hm => by simp at hm) ?_
  rintro ρ rfl
  repeat' (first | infer_instance | fail)
theorem call_x1 {n a : Nat} {w : Int} {ds : List D} (ha : a < n) (h : ¬ (0 ≤ w ∧ w < (n : Int))) : G_look_call [N n, .tuple (N a :: .int w :: ds)] = some (NoP w) := by
  have c1 := person_x h
  have c2 := person_n ha
  have c3 := look_person_w ha
  unfold G_look_call
  infer_instance
  refine exx_for ?_
  repeat' (first | infer_instance | fail)
  refine forX (pre := [N a]) (d := .int w) (post := ds) (fun ρ => ∃ x, ρ = [sh (N n), sh (.tuple (N a :: .int w :: ds)), x]) rfl ⟨_, rfl⟩ ?_ ?_
  · rintro e ρ hm ⟨x, rfl⟩
    have : e = N a := by simpa using hm
    subst this
    repeat' (first | infer_instance | fail)
    refine ⟨?_, ?_⟩
    · repeat' (first | infer_instance | fail)
    · repeat' (first | infer_instance | fail)
      exact ⟨_, rfl⟩
  · rintro ρ ⟨x, rfl⟩
    repeat' (first | infer_instance | fail)
theorem call_n {n a b : Nat} {C : D} (hC : Cx2 C a b) (ha : a < n) (hb : b < n) : G_look_call [N n, C] = none := by
  have c1 := person_n ha
  have c2 := person_n hb
  have c3 := look_person_w ha
  have c4 := look_person_w hb
  unfold G_look_call
  have go : ∀ ρ, ρ = [sh (N n), sh C, none] → ForN (bname 2) (fdrop (fcall none F_look_person (fcons (fvar 0) (fcons (fvar 2) fnil)))) (xcall G_look_person (fcons (fvar 0) (fcons (fvar 2) fnil))) [N a, N b] ρ := by
    rintro ρ rfl
    refine forN (fun ρ => ∃ x, ρ = [sh (N n), sh C, x]) ⟨_, rfl⟩ ?_
    rintro d ρ hd ⟨x, rfl⟩
    have : d = N a ∨ d = N b := by simpa using hd
    rcases this with rfl | rfl
    · repeat' (first | infer_instance | fail)
      refine ⟨?_, ?_⟩
      · repeat' (first | infer_instance | fail)
      · repeat' (first | infer_instance | fail)
        exact ⟨_, rfl⟩
    · repeat' (first | infer_instance | fail)
      refine ⟨?_, ?_⟩
      · repeat' (first | infer_instance | fail)
      · repeat' (first | infer_instance | fail)
        exact ⟨_, rfl⟩
  infer_instance
  refine nox_for ?_
  rcases hC with rfl | rfl
  · repeat' (first | infer_instance | fail)
    exact go _ rfl
  · repeat' (first | infer_instance | fail)
    exact go _ rfl
theorem word_x {n : Nat} {A C : D} {ds post : List D} {ps : List (Nat × Nat)} {z : Xn} (hA : A = .list ds ∨ A = .tuple ds) (hd : ds = Ps ps ++ C :: post) (h : CallsOk n ps) (c : G_look_call [N n, C] = some z) : G_look_word [N n, A] = some z := by
  unfold G_look_word
  have go : ∀ ρ, ρ = [sh (N n), sh A, none] → ForX (bname 2) (fdrop (fcall none F_look_call (fcons (fvar 0) (fcons (fvar 2) fnil)))) (xcall G_look_call (fcons (fvar 0) (fcons (fvar 2) fnil))) ds ρ fun m _ => m = z := by
    rintro ρ rfl
    refine forX (pre := Ps ps) (d := C) (post := post) (fun ρ => ∃ x, ρ = [sh (N n), sh A, x]) hd ⟨_, rfl⟩ ?_ ?_
    · rintro e ρ hm ⟨x, rfl⟩
      obtain ⟨p, hp, rfl⟩ := List.mem_map.mp hm
      have hp := h p hp
      have c1 := call_n (n := n) (Cx2.pr (a := p.1) (b := p.2)) (by omega) hp.2
      have c2 := look_call_w (n := n) (Cx2.pr (a := p.1) (b := p.2)) (by omega) hp.2
      repeat' (first | infer_instance | fail)
      refine ⟨?_, ?_⟩
      · repeat' (first | infer_instance | fail)
      · repeat' (first | infer_instance | fail)
        exact ⟨_, rfl⟩
    · rintro ρ ⟨x, rfl⟩
      repeat' (first | infer_instance | fail)
  infer_instance
  refine exx_for ?_
  rcases hA with rfl | rfl
  · repeat' (first | infer_instance | fail)
    exact go _ rfl
  · repeat' (first | infer_instance | fail)
    exact go _ rfl
theorem word_n {n : Nat} {A : D} {ps : List (Nat × Nat)} (hA : Wd A ps) (h : CallsOk n ps) : G_look_word [N n, A] = none := by
  unfold G_look_word
  infer_instance
  refine nox_for ?_
  repeat' (first | infer_instance | fail)
  refine sqQ_Wd hA rfl rfl fun j => ?_
  refine forN (fun ρ => ∃ x, ρ = [sh (N n), sh A, x]) ⟨_, rfl⟩ ?_
  rintro e ρ hm ⟨x, rfl⟩
  obtain ⟨p, hp, rfl⟩ := List.mem_map.mp hm
  have hp := h p hp
  have c1 := call_n (n := n) (prK_cx (k := j) (a := p.1) (b := p.2)) (by omega) hp.2
  have c2 := look_call_w (n := n) (prK_cx (k := j) (a := p.1) (b := p.2)) (by omega) hp.2
  repeat' (first | infer_instance | fail)
  refine ⟨?_, ?_⟩
  · repeat' (first | infer_instance | fail)
  · repeat' (first | infer_instance | fail)
    exact ⟨_, rfl⟩
theorem sheet_x {n : Nat} {A : D} {z : Xn} (c : G_look_word [N n, A] = some z) : G_sheet_of [N n, A] = some z := by
  unfold G_sheet_of
  infer_instance
  repeat' (first | infer_instance | fail)
theorem sheet_n {n : Nat} {A : D} {ps : List (Nat × Nat)} (hA : Wd A ps) (h : CallsOk n ps) : G_sheet_of [N n, A] = none := by
  have c := word_n hA h
  unfold G_sheet_of
  infer_instance
  repeat' (first | infer_instance | fail)
end Sh
set_option Elab.async false
set_option linter.all false
set_option maxRecDepth 100000
set_option maxHeartbeats 4000000
namespace K05
open PySem PySem.Spec PyProof.Rows L2 DL Sh
open Id
local macro_rules | `(tactic| infer_instance) => `(tactic| first
  | with_reducible apply exx_seq
  | with_reducible apply exx_then
  | with_reducible apply exx_if
  | with_reducible apply exx_raise
  | with_reducible apply exx_raise0
  | with_reducible apply exx_call
  | (refine raiQ (by exact rfl) (by exact rfl) ?_)
  | ((refine xcQ (by exact rfl) (by with_reducible assumption) (by exact rfl) ?_); (try dsimp only [List.set_cons_zero, List.set_cons_succ, frOf_f, frOf_t, List.cons_append, List.nil_append]))
  | with_reducible apply nox_seq
  | with_reducible apply nox_then
  | with_reducible apply nox_if
  | with_reducible exact nox_no
  | with_reducible apply nox_or
  | with_reducible apply nox_call
  | (exact ncQ (by exact rfl) (by with_reducible assumption))
  | ((with_reducible apply toX_some); exact rfl; (simp +decide only [en0, enA, List.length_cons, List.length_nil, List.cons_append, List.nil_append, List.replicate, ↓reduceIte, Nat.reduceAdd, Nat.reduceSub, Nat.zero_add] <;> exact rfl))
  | ((with_reducible apply toX_none); exact rfl; (simp +decide only [en0, enA, List.length_cons, List.length_nil, List.cons_append, List.nil_append, List.replicate, ↓reduceIte, Nat.reduceAdd, Nat.reduceSub, Nat.zero_add] <;> exact rfl))
  | ((with_reducible apply op1_it); exact rfl; with_reducible assumption)
  | ((with_reducible apply op1_it); exact rfl; with_reducible exact gIsc_0))
local macro_rules | `(tactic| infer_instance) => `(tactic| ((with_reducible apply op2_it); exact rfl; exact rfl; with_reducible assumption))
def F_called : FS := toF 2 2 none (fseq (fdrop (fcall none F_look_call (fcons (fopA gLen (fcons (fvar 0) fnil)) (fcons (fvar 1) fnil))))
    (fret (fcall none F_after_call (fcons (fvar 0) (fcons (fvar 1) fnil)))))
def G_called : GX := toX 2 2 (xcall G_look_call (fcons (fopA gLen (fcons (fvar 0) fnil)) (fcons (fvar 1) fnil)))
def G_with_call : GX := toX 2 2 (xcall G_look_call (fcons (fcall none F_people_of (fcons (fvar 0) fnil)) (fcons (fvar 1) fnil)))
def G_pairings_along : GX := toX 2 4 (xcall G_look_word (fcons (fopA gLen (fcons (fvar 0) fnil)) (fcons (fvar 1) fnil)))
def G_called_all : GX := toX 2 2 (xcall G_pairings_along (fcons (fvar 0) (fcons (fvar 1) fnil)))
def G_idle_calls : GX := toX 2 6 (xcall G_pairings_along (fcons (fvar 0) (fcons (fvar 1) fnil)))
def F_law_asked : FS := toF 3 3 none (fseq (fifS (fbool (fop2 gEq (fvar 0) (fc (.int 0)))) (fret (fcall none F_called (fcons (fvar 1) (fcons (fop2 gIx (fvar 2) (fc (.int 0))) fnil)))) fskip)
    (fseq (fifS (fbool (fop2 gLt (fvar 0) (fc (.int 4)))) (fret (fcix [F_called_all, F_pairings_along, F_idle_calls] (fop2 gSub (fvar 0) (fc (.int 1))) (fcons (fvar 1) (fcons (fvar 2) fnil)))) fskip)
    (fret (fif (fbool (fop2 gEq (fvar 0) (fc (.int 4)))) (fcall none F_with_call (fcons (fcall none F_law_sheet_of (fcons (fopA gLen (fcons (fvar 1) fnil)) (fcons (flst fnil) fnil))) (fcons (fop2 gIx (fvar 2) (fc (.int 0))) fnil))) (fcall none F_sheet_of (fcons (fopA gLen (fcons (fvar 1) fnil)) (fcons (fvar 2) fnil)))))))
def G_law_asked : GX := toX 3 3 (xor' (xif (fbool (fop2 gEq (fvar 0) (fc (.int 0)))) (xcall G_called (fcons (fvar 1) (fcons (fop2 gIx (fvar 2) (fc (.int 0))) fnil))) xno)
    (xseq (fifS (fbool (fop2 gEq (fvar 0) (fc (.int 0)))) (fret (fcall none F_called (fcons (fvar 1) (fcons (fop2 gIx (fvar 2) (fc (.int 0))) fnil)))) fskip)
    (xor' (xif (fbool (fop2 gLt (fvar 0) (fc (.int 4)))) (xix [G_called_all, G_pairings_along, G_idle_calls] (fop2 gSub (fvar 0) (fc (.int 1))) (fcons (fvar 1) (fcons (fvar 2) fnil))) xno)
    (xseq (fifS (fbool (fop2 gLt (fvar 0) (fc (.int 4)))) (fret (fcix [F_called_all, F_pairings_along, F_idle_calls] (fop2 gSub (fvar 0) (fc (.int 1))) (fcons (fvar 1) (fcons (fvar 2) fnil)))) fskip)
    (xif (fbool (fop2 gEq (fvar 0) (fc (.int 4)))) (xcall G_with_call (fcons (fcall none F_law_sheet_of (fcons (fopA gLen (fcons (fvar 1) fnil)) (fcons (flst fnil) fnil))) (fcons (fop2 gIx (fvar 2) (fc (.int 0))) fnil))) (xcall G_sheet_of (fcons (fopA gLen (fcons (fvar 1) fnil)) (fcons (fvar 2) fnil))))))))
def F_law_refused (cl : Str → Addr) : FS := toF 3 6 none (fseq (fset [3] (f1 (fc .none)))
    (fseq (ftry cl ["NoPerson"] 4 3 (fdrop (fcall none F_law_asked (fcons (fvar 0) (fcons (fvar 1) (fcons (fvar 2) fnil))))) (xcall G_law_asked (fcons (fvar 0) (fcons (fvar 1) (fcons (fvar 2) fnil)))))
    (fseq (fifS (fbool (fop2 gIs (fvar 3) (fc .none))) (fret (fc .none)) fskip)
    (fseq (fset [5] (f1 (fand (fop1 (gIsc cl ["NoPerson"] []) (fvar 3)) (fop1 (gIsc cl ["NoPerson"] []) (fvar 3)))))
    (fseq (fifS (forT (fnotT (fbool (fvar 5))) (fbool (fop1 (gIsc cl [] ["NoPerson"]) (fvar 3)))) (fret (fc (.str "other"))) fskip)
    (fret (fop1 (gAtx cl ["NoPerson"] "person") (fvar 3))))))))
def F_law_wrong_call : FS := toF 2 7 (some 0) (fseq (fasg (btup 2 (bcons (bname 2) (bcons (bname 3) bnil))) (fcall (some 0) F_law_any_call (fcons (fvar 0) (fcons (fvar 1) fnil))))
    (fseq (fset [4] (f1 (fcall (some 0) F_law_of (fcons (fvar 0) (fcons (flst (fcons (fvar 1) (fcons (fop2 gAdd (fop2 gAdd (fvar 1) (fc (.int 1))) (fcall (some 0) (F_law_take 3) (fcons (fvar 0) (fcons (fc (.int 9)) fnil)))) (fcons (fop2 gPow (fc (.int 10)) (fc (.int 12))) fnil)))) fnil)))))
    (fseq (fset [5] (f1 (fcall (some 0) F_law_of (fcons (fvar 0) (fcons (flst (fcons (fop1 gNeg (fc (.int 1))) (fcons (fop2 gSub (fop1 gNeg (fc (.int 1))) (fcall (some 0) (F_law_take 3) (fcons (fvar 0) (fcons (fc (.int 9)) fnil)))) (fcons (fop1 gNeg (fop2 gPow (fc (.int 10)) (fc (.int 12)))) fnil)))) fnil)))))
    (fseq (fset [6] (f1 (fcall (some 0) (F_law_take 3) (fcons (fvar 0) (fcons (fc (.int 4)) fnil)))))
    (fret (fop2 gIx (flst (fcons (ftup (fcons (ftup (fcons (fvar 2) (fcons (fvar 4) fnil))) (fcons (fvar 4) fnil))) (fcons (ftup (fcons (ftup (fcons (fvar 5) (fcons (fvar 3) fnil))) (fcons (fvar 5) fnil))) (fcons (ftup (fcons (ftup (fcons (fvar 5) (fcons (fvar 4) fnil))) (fcons (fvar 5) fnil))) (fcons (ftup (fcons (ftup (fcons (fvar 4) (fcons (fop2 gAdd (fvar 4) (fc (.int 1))) fnil))) (fcons (fvar 4) fnil))) fnil))))) (fvar 6)))))))
def F_law_right (cl : Str → Addr) : FS := toF 1 10 (some 0) (fseq (fset [1] (f1 (fop2 gAdd (fc (.int 2)) (fop2 gMul (fc (.int 2)) (fcall (some 0) (F_law_take 3) (fcons (fvar 0) (fcons (fc (.int 6)) fnil)))))))
    (fseq (fset [2] (f1 (fcall (some 0) F_law_random (fcons (fvar 0) (fcons (fvar 1) fnil)))))
    (fseq (ffor (firng1 (fcons (fc (.int 5)) fnil)) (bname 3) (fseq (fasg (btup 2 (bcons (bname 4) (bcons (bname 5) bnil))) (fcall (some 0) F_law_wrong_call (fcons (fvar 0) (fcons (fvar 1) fnil))))
    (fseq (fset [6] (f1 (fslice (flst (fcons (fcall (some 0) F_law_any_call (fcons (fvar 0) (fcons (fvar 1) fnil))) (fcons (fop2 gIx (fcall (some 0) F_law_wrong_call (fcons (fvar 0) (fcons (fvar 1) fnil))) (fc (.int 0))) fnil))) fonone (fosome (fcall (some 0) (F_law_take 3) (fcons (fvar 0) (fcons (fc (.int 3)) fnil)))))))
    (fseq (fset [7] (f1 (fop2 gAdd (fcall (some 0) F_law_some_calls (fcons (fvar 0) (fcons (fvar 1) (fcons (fc (.int 5)) fnil)))) (flst (fcons (fcall (some 0) F_law_any_call (fcons (fvar 0) (fcons (fvar 1) fnil))) fnil)))))
    (fseq (fset [8] (f1 (flc [9] (firng1 (fcons (fc (.int 6)) fnil)) (bname 9) ftrue (fcall none (F_law_refused cl) (fcons (fvar 9) (fcons (fvar 2) (fcons (fop2 gAdd (flst (fcons (fvar 4) fnil)) (fvar 6)) fnil)))))))
    (fseq (fifS (fnotT (fbool (fcall none (F_law_same 5) (fcons (fvar 8) (fcons (frep (flst (fcons (fvar 5) fnil)) (fc (.int 6))) fnil))))) (fret (fc (.bool false))) fskip)
    (fseq (fset [8] (f1 (flc [9] (fiseq (ftup (fcons (fc (.int 1)) (fcons (fc (.int 2)) (fcons (fc (.int 3)) (fcons (fc (.int 5)) fnil)))))) (bname 9) ftrue (fcall none (F_law_refused cl) (fcons (fvar 9) (fcons (fvar 2) (fcons (fop2 gAdd (fop2 gAdd (fvar 7) (flst (fcons (fvar 4) fnil))) (fvar 6)) fnil)))))))
    (fseq (fifS (fnotT (fbool (fcall none (F_law_same 5) (fcons (fvar 8) (fcons (frep (flst (fcons (fvar 5) fnil)) (fc (.int 4))) fnil))))) (fret (fc (.bool false))) fskip)
    (fifS (fnotT (fbool (fcall none (F_law_same 5) (fcons (flc [9] (firng1 (fcons (fc (.int 6)) fnil)) (bname 9) ftrue (fcall none (F_law_refused cl) (fcons (fvar 9) (fcons (fvar 2) (fcons (fvar 7) fnil))))) (fcons (frep (flst (fcons (fc .none) fnil)) (fc (.int 6))) fnil))))) (fret (fc (.bool false))) fskip)))))))))
    (fret (fc (.bool true))))))
def F_law (cl : Str → Addr) : FS := toF 1 5 none (fseq (fset [1] (f1 (fcall none F_law_cells (fcons (fvar 0) (fcons (fc (.int 3)) fnil)))))
    (fseq (ffor (firng1 (fcons (fopA gLen (fcons (fvar 1) fnil)) fnil)) (bname 2) (fseq (fset [3] (f1 (fcall none F_law_box (fcons (fvar 1) (fcons (fvar 2) fnil)))))
    (fifS (fnotT (fbool (fopA gAll (fcons (flc [4] (firng1 (fcons (fc (.int 2)) fnil)) (bname 4) ftrue (fcall (some 0) (F_law_right cl) (fcons (fvar 3) fnil))) fnil)))) (fret (fc (.bool false))) fskip)))
    (fret (fc (.bool true)))))
theorem gIx_hd {x : D} {l : List D} : gIx (.list (x :: l)) (N 0) = some (.it x) := by
  exact gIx_at (i := 0) rfl
def IxN {α : Type} (l : List α) (r : RV) (P : α → Prop) : Prop := ∃ (i : Nat) (G : α), r = .sh (N i) ∧ l[i]? = some G ∧ P G
theorem ixN {α : Type} {l : List α} {i : Nat} {G : α} {P : α → Prop} (e : l[i]? = some G) (k : P G) : IxN l (.sh (N i)) P := ⟨i, G, rfl, e, k⟩
theorem exf {F : FS} {ds : List D} (h : Cl F ds fun r => r.bx = []) : ∃ fr d, F ds = some ⟨fr, d, []⟩ := by
  obtain ⟨⟨fr, d, b⟩, e, h⟩ := h
  cases h
  exact ⟨fr, d, e⟩
theorem exx_ix {Gs : List GX} {k : Fe} {fs : Fa} {ρ : En} {Q : Xn → En → Prop} (h : Ex k ρ fun r ρ1 => ∃ (i : Nat) (G : GX), r = .sh (N i) ∧ Gs[i]? = some G ∧ ExX (xcall G fs) ρ1 Q) : ExX (xix Gs k fs) ρ Q := by
  obtain ⟨r, ρ1, e1, i, G, rfl, e2, n, ρ', e3, q⟩ := h
  refine ⟨n, ρ', ?_, q⟩
  unfold xix
  rw [e1, Option.bind_some]
  simp only [Int.natCast_nonneg, if_true, Int.toNat_natCast, e2, Option.bind_some]
  exact e3
theorem nox_ix {Gs : List GX} {k : Fe} {fs : Fa} {ρ : En} (h : Ex k ρ fun r ρ1 => IxN Gs r fun G => NoX (xcall G fs) ρ1) : NoX (xix Gs k fs) ρ := by
  obtain ⟨r, ρ1, e1, i, G, rfl, e2, e3⟩ := h
  unfold NoX xix
  rw [e1, Option.bind_some]
  simp only [Int.natCast_nonneg, if_true, Int.toNat_natCast, e2, Option.bind_some]
  exact e3
theorem ex_cix {Fs : List FS} {k : Fe} {fs : Fa} {ρ : En} {Q : RV → En → Prop} (h : Ex k ρ fun r ρ1 => IxN Fs r fun F => Ex (fcall none F fs) ρ1 Q) : Ex (fcix Fs k fs) ρ Q := by
  obtain ⟨r, ρ1, e1, i, F, rfl, e2, n, ρ', e3, q⟩ := h
  refine ⟨n, ρ', ?_, q⟩
  unfold fcix
  rw [e1, Option.bind_some]
  simp only [Int.natCast_nonneg, if_true, Int.toNat_natCast, e2, Option.bind_some]
  exact e3
local macro_rules | `(tactic| infer_instance) => `(tactic| (with_reducible apply nox_ix))
local macro_rules | `(tactic| infer_instance) => `(tactic| (with_reducible apply ex_cix))
local macro_rules | `(tactic| infer_instance) => `(tactic| ((with_reducible apply ixN); exact rfl))
section
variable {n : Nat} {p : List Nat} {A C : D} {z : Xn} {ps : List (Nat × Nat)} {post : List D}
theorem called_w {a b : Nat} (J : Joined n p) (hab : a < b) (hb : b < n) : F_called [.tuple (Ns p), pr a b] = some ⟨false, .tuple (Ns (stepP p a b)), []⟩ := by
  have hl := J.len
  have c1 := look_call_w (C := pr a b) .pr (by omega : a < n) hb
  have c2 := after_call_w (A := .tuple (Ns p)) (C := pr a b) .t .pr J hab hb
  subst hl
  refine Cl.eq ?_
  unfold F_called
  repeat' (first | infer_instance | fail)
theorem called_x (hl : p.length = n) (c : G_look_call [N n, C] = some z) : G_called [.tuple (Ns p), C] = some z := by
  subst hl
  unfold G_called
  infer_instance
  repeat' (first | infer_instance | fail)
theorem called_n (hl : p.length = n) (c : G_look_call [N n, C] = none) : G_called [.tuple (Ns p), C] = none := by
  subst hl
  unfold G_called
  infer_instance
  repeat' (first | infer_instance | fail)
theorem wcall_x (hl : p.length = 2 * n) (c : G_look_call [N n, C] = some z) : G_with_call [.tuple (Ns p), C] = some z := by
  have c1 := people_w (n := n) (A := .tuple (Ns p)) .t hl
  unfold G_with_call
  infer_instance
  repeat' (first | infer_instance | fail)
theorem wcall_n (hl : p.length = 2 * n) (c : G_look_call [N n, C] = none) : G_with_call [.tuple (Ns p), C] = none := by
  have c1 := people_w (n := n) (A := .tuple (Ns p)) .t hl
  unfold G_with_call
  infer_instance
  repeat' (first | infer_instance | fail)
theorem along_x (hl : p.length = n) (c : G_look_word [N n, A] = some z) : G_pairings_along [.tuple (Ns p), A] = some z := by
  subst hl
  unfold G_pairings_along
  infer_instance
  repeat' (first | infer_instance | fail)
theorem along_n (hl : p.length = n) (c : G_look_word [N n, A] = none) : G_pairings_along [.tuple (Ns p), A] = none := by
  subst hl
  unfold G_pairings_along
  infer_instance
  repeat' (first | infer_instance | fail)
theorem all_x (c : G_pairings_along [.tuple (Ns p), A] = some z) : G_called_all [.tuple (Ns p), A] = some z := by
  unfold G_called_all
  infer_instance
  repeat' (first | infer_instance | fail)
theorem all_n (c : G_pairings_along [.tuple (Ns p), A] = none) : G_called_all [.tuple (Ns p), A] = none := by
  unfold G_called_all
  infer_instance
  repeat' (first | infer_instance | fail)
theorem idle_x (c : G_pairings_along [.tuple (Ns p), A] = some z) : G_idle_calls [.tuple (Ns p), A] = some z := by
  unfold G_idle_calls
  infer_instance
  repeat' (first | infer_instance | fail)
theorem idle_n (c : G_pairings_along [.tuple (Ns p), A] = none) : G_idle_calls [.tuple (Ns p), A] = none := by
  unfold G_idle_calls
  infer_instance
  repeat' (first | infer_instance | fail)
/-- one of six functions -/
theorem asked_x {s : Nat} (hl : p.length = n) (h1 : 1 ≤ n) (hn : n ≤ 1000) (hs : s < 6) (h : CallsOk n ps) (hz : ps = [] ∨ s = 1 ∨ s = 2 ∨ s = 3 ∨ s = 5) (c : G_look_call [N n, C] = some z) : G_law_asked [N s, .tuple (Ns p), .list (Ps ps ++ C :: post)] = some z := by
  have w := word_x (n := n) (A := .list (Ps ps ++ C :: post)) (.inl rfl) rfl h c
  have a1 := along_x hl w
  have a2 := all_x a1
  have a3 := idle_x a1
  have a4 := sheet_x w
  have hc : ps = [] → gIx (.list (Ps ps ++ C :: post)) (N 0) = some (.it C) := fun e => by subst e; exact gIx_hd
  have a5 := called_x hl c
  have w0 : F_law_sheet_of [N n, .list []] = some ⟨false, .tuple (Ns (shW n [])), []⟩ := law_sheet_of_spec (n := n) (ps := []) (fun c hc => by cases hc) (by omega) hn
  have a6 := wcall_x (p := shW n []) (shW_joined (fun c hc => by cases hc)).len c
  generalize hA : PyData.list (Ps ps ++ C :: post) = A at *
  generalize shW n [] = e at *
  obtain rfl | rfl | rfl | rfl | rfl | rfl : s = 0 ∨ s = 1 ∨ s = 2 ∨ s = 3 ∨ s = 4 ∨ s = 5 := by omega
  all_goals unfold G_law_asked
  all_goals infer_instance
  · have hc := hc (hz.elim id fun z => by omega)
    refine exx_or1 ?_
    repeat' (first | infer_instance | fail)
  · refine exx_or2 ?_ ?_
    · repeat' (first | infer_instance | fail)
    repeat' (first | infer_instance | fail)
    refine exx_or1 ?_
    repeat' (first | infer_instance | fail)
    refine exx_ix ?_
    repeat' (first | infer_instance | fail)
    refine ⟨0, _, rfl, rfl, ?_⟩
    repeat' (first | infer_instance | fail)
  · refine exx_or2 ?_ ?_
    · repeat' (first | infer_instance | fail)
    repeat' (first | infer_instance | fail)
    refine exx_or1 ?_
    repeat' (first | infer_instance | fail)
    refine exx_ix ?_
    repeat' (first | infer_instance | fail)
    refine ⟨1, _, rfl, rfl, ?_⟩
    repeat' (first | infer_instance | fail)
  · refine exx_or2 ?_ ?_
    · repeat' (first | infer_instance | fail)
    repeat' (first | infer_instance | fail)
    refine exx_or1 ?_
    repeat' (first | infer_instance | fail)
    refine exx_ix ?_
    repeat' (first | infer_instance | fail)
    refine ⟨2, _, rfl, rfl, ?_⟩
    repeat' (first | infer_instance | fail)
  · have hc := hc (hz.elim id fun z => by omega)
    subst hl
    refine exx_or2 ?_ ?_
    · repeat' (first | infer_instance | fail)
    repeat' (first | infer_instance | fail)
    refine exx_or2 ?_ ?_
    · repeat' (first | infer_instance | fail)
    repeat' (first | infer_instance | fail)
  · subst hl
    refine exx_or2 ?_ ?_
    · repeat' (first | infer_instance | fail)
    repeat' (first | infer_instance | fail)
    refine exx_or2 ?_ ?_
    · repeat' (first | infer_instance | fail)
    repeat' (first | infer_instance | fail)
theorem asked_n {s : Nat} (J : Joined n p) (h1 : 1 ≤ n) (hn : n ≤ 1000) (hs : s < 6) (h : CallsOk n ps) (h0 : ps ≠ []) (hp : ps.length ≤ 1000) : G_law_asked [N s, .tuple (Ns p), .list (Ps ps)] = none ∧ ∃ fr d, F_law_asked [N s, .tuple (Ns p), .list (Ps ps)] = some ⟨fr, d, []⟩ := by
  have hl := J.len
  have w := word_n (n := n) (A := .list (Ps ps)) .ps h
  have a1 := along_n hl w
  have a2 := all_n a1
  have a3 := idle_n a1
  have a4 := sheet_n (n := n) (A := .list (Ps ps)) .ps h
  have f1 := along_w (A := .tuple (Ns p)) (B := .list (Ps ps)) .t .ps J h (by omega)
  have f2 := called_all_w (A := .tuple (Ns p)) (B := .list (Ps ps)) .t .ps J h (by omega)
  have f3 := idle_w (A := .tuple (Ns p)) (B := .list (Ps ps)) .t .ps J h (by omega)
  have f4 := sheet_of_w (n := n) (A := .list (Ps ps)) .ps h hn
  obtain ⟨⟨a, b⟩, r, hr⟩ := List.exists_cons_of_ne_nil h0
  obtain ⟨hab, hb⟩ := h (a, b) (by rw [hr]; exact .head _)
  have hc : gIx (.list (Ps ps)) (N 0) = some (.it (pr a b)) := by rw [hr]; exact gIx_hd
  have c := call_n (n := n) (C := pr a b) .pr (by have : a < b := hab; have : b < n := hb; omega) hb
  have a5 := called_n hl c
  have f5 := called_w J hab hb
  have w0 : F_law_sheet_of [N n, .list []] = some ⟨false, .tuple (Ns (shW n [])), []⟩ := law_sheet_of_spec (n := n) (ps := []) (fun c hc => by cases hc) (by omega) hn
  have J0 : Joined (2 * n) (shW n []) := shW_joined (fun c hc => by cases hc)
  have a6 := wcall_n (p := shW n []) J0.len c
  have f6 := with_call_w (A := .tuple (Ns (shW n []))) (C := pr a b) .t .pr J0 hn hab hb
  generalize hA : PyData.list (Ps ps) = A at *
  generalize shW n [] = e at *
  generalize alongP p ps = al at *
  generalize Ts al = al at *
  subst hl
  obtain rfl | rfl | rfl | rfl | rfl | rfl : s = 0 ∨ s = 1 ∨ s = 2 ∨ s = 3 ∨ s = 4 ∨ s = 5 := by omega
  all_goals refine ⟨?_, ?_⟩
  all_goals try (unfold G_law_asked; infer_instance; refine nox_or ?_ ?_)
  all_goals try (refine exf ?_; unfold F_law_asked)
  all_goals repeat' (first | infer_instance | fail)
  all_goals try rfl
theorem refused_x {cl : Str → Addr} (I : CInj ["NoPerson", "NoNumber", "NotShortest", "OtherSize"] cl) {s : Nat} {w : Int} (hl : p.length = n) (h1 : 1 ≤ n) (hn : n ≤ 1000) (hs : s < 6) (h : CallsOk n ps) (hz : ps = [] ∨ s = 1 ∨ s = 2 ∨ s = 3 ∨ s = 5) (c : G_look_call [N n, C] = some (NoP w)) : F_law_refused cl [N s, .tuple (Ns p), .list (Ps ps ++ C :: post)] = some ⟨false, .int w, []⟩ := by
  have c1 := asked_x (post := post) hl h1 hn hs h hz c
  have i1 : gIsc cl ["NoPerson"] [] (xD cl (NoP w)) = some (.it (.bool true)) := gIsc_y (by simp)
  have i2 : gIsc cl [] ["NoPerson"] (xD cl (NoP w)) = some (.it (.bool false)) := gIsc_n I (by simp) (by simp) (by simp) (by simp)
  have i3 : gAtx cl ["NoPerson"] "person" (xD cl (NoP w)) = some (.it (.int w)) := gAtx_y (by simp)
  have i4 : gIs (xD cl (NoP w)) .none = some (.it (.bool false)) := rfl
  generalize PyData.list (Ps ps ++ C :: post) = A at *
  refine Cl.eq ?_
  unfold F_law_refused
  repeat' (first | infer_instance | fail)
  refine st_tryX ?_
  repeat' (first | infer_instance | fail)
  refine ⟨by simp, ?_⟩
  generalize xD cl (NoP w) = X at *
  repeat' (first | infer_instance | fail)
theorem refused_n {cl : Str → Addr} {s : Nat} (J : Joined n p) (h1 : 1 ≤ n) (hn : n ≤ 1000) (hs : s < 6) (h : CallsOk n ps) (h0 : ps ≠ []) (hp : ps.length ≤ 1000) : F_law_refused cl [N s, .tuple (Ns p), .list (Ps ps)] = some ⟨false, .none, []⟩ := by
  obtain ⟨c1, fr, d, c2⟩ := asked_n J h1 hn hs h h0 hp
  generalize PyData.list (Ps ps) = A at *
  refine Cl.eq ?_
  unfold F_law_refused
  repeat' (first | infer_instance | fail)
  refine st_tryN ?_ ?_
  · repeat' (first | infer_instance | fail)
  · repeat' (first | infer_instance | fail)
    refine ⟨_, _, _, rfl, c2, (by split <;> rfl), ?_⟩
    repeat' (first | infer_instance | fail)
end
theorem wrong_call_w {k n : Nat} {bx : List D} {Q : FR → Prop} (hb : BoxOk k bx) (hk : k + 20 < 2 ^ 40) (h2 : 2 ≤ n) (hn : n ≤ 100) (q : ∀ (c : D) (w : Int) (bx' : List D), G_look_call [N n, c] = some (NoP w) → BoxOk (k + 7) bx' → Q ⟨false, .tuple [c, .int w], bx'⟩) : Cl F_law_wrong_call [.list bx, N n] Q := by
  obtain ⟨T, hT, gp⟩ : ∃ T : Nat, T = 1000000000000 ∧ gPow (N 10) (N 12) = some (.it (N T)) := ⟨_, rfl, gPow_N (by omega) (by omega)⟩
  unfold F_law_wrong_call
  repeat' (first | infer_instance | fail)
  refine any_call_w hb (by omega) (by omega) (by omega) fun a b bx1 hab hbn hb1 => ?_
  repeat' (first | infer_instance | fail)
  refine take_w hb1 (by omega) (by omega) (by omega) fun r bx2 hr hb2 => ?_
  repeat' (first | infer_instance | fail)
  refine of_w hb2 (by omega) (by simp) (by simp) fun d bx3 hd hb3 => ?_
  obtain ⟨f, rfl, hf, hf2⟩ : ∃ f : Nat, d = N f ∧ n ≤ f ∧ f < 2 ^ 59 := by
    simp only [List.mem_cons, List.not_mem_nil, or_false] at hd
    rcases hd with rfl | rfl | rfl
    · exact ⟨n, rfl, Nat.le_refl _, by omega⟩
    · exact ⟨_, rfl, by omega, by omega⟩
    · exact ⟨_, rfl, by omega, by omega⟩
  repeat' (first | infer_instance | fail)
  refine take_w hb3 (by omega) (by omega) (by omega) fun r2 bx4 hr2 hb4 => ?_
  repeat' (first | infer_instance | fail)
  refine of_w hb4 (by omega) (by simp) (by simp) fun d bx5 hd hb5 => ?_
  obtain ⟨e, rfl, he⟩ : ∃ e : Int, d = .int e ∧ e < 0 := by
    simp only [List.mem_cons, List.not_mem_nil, or_false] at hd
    rcases hd with rfl | rfl | rfl
    · exact ⟨_, rfl, by omega⟩
    · exact ⟨_, rfl, by omega⟩
    · exact ⟨_, rfl, by omega⟩
  repeat' (first | infer_instance | fail)
  refine take_w hb5 (by omega) (by omega) (by omega) fun r3 bx6 hr3 hb6 => ?_
  repeat' (first | infer_instance | fail)
  obtain rfl | rfl | rfl | rfl : r3 = 0 ∨ r3 = 1 ∨ r3 = 2 ∨ r3 = 3 := by omega
  · refine op2_it rfl rfl (gIx_at (i := 0) rfl) ?_
    repeat' (first | infer_instance | fail)
    exact q _ _ _ (call_x1 (by omega) (by omega)) (hb6.mono (by omega))
  · refine op2_it rfl rfl (gIx_at (i := 1) rfl) ?_
    repeat' (first | infer_instance | fail)
    exact q _ _ _ (call_x0 (by omega)) (hb6.mono (by omega))
  · refine op2_it rfl rfl (gIx_at (i := 2) rfl) ?_
    repeat' (first | infer_instance | fail)
    exact q _ _ _ (call_x0 (by omega)) (hb6.mono (by omega))
  · refine op2_it rfl rfl (gIx_at (i := 3) rfl) ?_
    repeat' (first | infer_instance | fail)
    exact q _ _ _ (call_x0 (by omega)) (hb6.mono (by omega))
theorem right_ok {cl : Str → Addr} (I : CInj ["NoPerson", "NoNumber", "NotShortest", "OtherSize"] cl) : PartOk 200000 (F_law_right cl) := partOk_of fun k bx hb hk => by
  unfold F_law_right
  repeat' (first | infer_instance | fail)
  refine take_w hb (by omega) (by omega) (by omega) fun r bx1 hr hb1 => ?_
  repeat' (first | infer_instance | fail)
  obtain ⟨n, hn⟩ : ∃ n, n = 2 + 2 * r := ⟨_, rfl⟩
  rw [← hn]
  refine random_w hb1 (by omega) (by omega) (by omega) fun p bx2 J hb2 => ?_
  have hl := J.len
  repeat' (first | infer_instance | fail)
  refine forQ_rng (n := 5) (enc := N) (fun j ρ => ∃ (bx' : List D) (x3 x4 x5 x6 x7 x8 : Option (Fl × D)), BoxOk (k + 2000 + 20000 * j) bx' ∧ ρ = [bxs (.list bx'), sh (N n), sh (.tuple (Ns p)), x3, x4, x5, x6, x7, x8, none]) rfl ⟨bx2, none, none, none, none, none, none, hb2.mono (by omega), rfl⟩ ?_ ?_
  · rintro j ρ hj ⟨bx', x3, x4, x5, x6, x7, x8, hb', rfl⟩
    repeat' (first | infer_instance | fail)
    refine wrong_call_w hb' (by omega) (by omega) (by omega) fun C w bx3 c1 hb3 => ?_
    repeat' (first | infer_instance | fail)
    refine any_call_w hb3 (by omega) (by omega) (by omega) fun a b bx4 hab hbn hb4 => ?_
    repeat' (first | infer_instance | fail)
    refine wrong_call_w hb4 (by omega) (by omega) (by omega) fun C2 w2 bx5 c2 hb5 => ?_
    repeat' (first | infer_instance | fail)
    refine take_w hb5 (by omega) (by omega) (by omega) fun v bx6 hv hb6 => ?_
    repeat' (first | infer_instance | fail)
    generalize hL : List.take v [pr a b, C2] = L
    have hLl : L.length ≤ 2 := by rw [← hL, List.length_take]; simp; omega
    repeat' (first | infer_instance | fail)
    refine some_calls_w hb6 (by omega) (by omega) (by omega) (by omega) fun ps bx7 hps hlen hb7 => ?_
    repeat' (first | infer_instance | fail)
    refine any_call_w hb7 (by omega) (by omega) (by omega) fun a2 b2 bx8 hab2 hbn2 hb8 => ?_
    have hps2 := calls_snoc hps hab2 hbn2
    have eP : Ps (ps ++ [(a2, b2)]) = Ps ps ++ [pr a2 b2] := by simp [Ps]
    have gI : ∀ d ∈ ([.int w, .int w, .int w, .int w, .int w, .int w] : List D), Good 4 d := fun d hd => by
      simp only [List.mem_cons, List.not_mem_nil, or_false, or_self] at hd
      subst hd
      exact .int _
    have gI4 : ∀ d ∈ ([.int w, .int w, .int w, .int w] : List D), Good 4 d := fun d hd => by
      simp only [List.mem_cons, List.not_mem_nil, or_false, or_self] at hd
      subst hd
      exact .int _
    have gN : ∀ d ∈ ([.none, .none, .none, .none, .none, .none] : List D), Good 4 d := fun d hd => by
      simp only [List.mem_cons, List.not_mem_nil, or_false, or_self] at hd
      subst hd
      exact .none
    have q1 : F_law_same 5 [.list (List.map (fun _ => PyData.int w) (List.range 6)), .list (List.replicate 6 [PyData.int w]).flatten] = some ⟨false, .bool true, []⟩ := same_ok 5 (.list [.int w, .int w, .int w, .int w, .int w, .int w]) (.list gI (by simp))
    have q2 : F_law_same 5 [.list (List.map (fun _ => PyData.int w) [1, 2, 3, 5]), .list (List.replicate 4 [PyData.int w]).flatten] = some ⟨false, .bool true, []⟩ := same_ok 5 (.list [.int w, .int w, .int w, .int w]) (.list gI4 (by simp))
    have q3 : F_law_same 5 [.list (List.map (fun _ => PyData.none) (List.range 6)), .list (List.replicate 6 [PyData.none]).flatten] = some ⟨false, .bool true, []⟩ := same_ok 5 (.list [.none, .none, .none, .none, .none, .none]) (.list gN (by simp))
    repeat' (first | ((fail_if_success (with_reducible apply lcQ)); infer_instance) | fail)
    refine lcQ (l := List.range 6) (enc := N) (g := fun _ => .int w) (p := fun _ => true) rfl rfl (by simp) (fun s hs => ?_) ?_
    · have hs := List.mem_range.mp hs
      have c : F_law_refused cl [N s, .tuple (Ns p), .list (C :: L)] = some ⟨false, .int w, []⟩ := refused_x (ps := []) (post := L) I hl (by omega) (by omega) hs (fun c hc => by cases hc) (.inl rfl) c1
      repeat' (first | infer_instance | fail)
    rw [filt_true]
    repeat' (first | ((fail_if_success (with_reducible apply lcQ)); infer_instance) | fail)
    refine ⟨_, 6, rfl, rfl, ⟨by omega, by simp⟩, ?_⟩
    repeat' (first | ((fail_if_success (with_reducible apply lcQ)); infer_instance) | fail)
    refine lcQ (l := [1, 2, 3, 5]) (enc := N) (g := fun _ => .int w) (p := fun _ => true) rfl rfl (by simp) (fun s hs => ?_) ?_
    · have hs : s = 1 ∨ s = 2 ∨ s = 3 ∨ s = 5 := by simpa using hs
      have c : F_law_refused cl [N s, .tuple (Ns p), .list (Ps ps ++ [pr a2 b2] ++ [C] ++ L)] = some ⟨false, .int w, []⟩ := by
        have := refused_x (ps := ps ++ [(a2, b2)]) (post := L) I hl (by omega) (by omega) (s := s) (by omega) hps2 (.inr hs) c1
        rw [eP] at this
        simpa using this
      repeat' (first | infer_instance | fail)
    rw [filt_true]
    repeat' (first | ((fail_if_success (with_reducible apply lcQ)); infer_instance) | fail)
    refine ⟨_, 4, rfl, rfl, ⟨by omega, by simp⟩, ?_⟩
    repeat' (first | ((fail_if_success (with_reducible apply lcQ)); infer_instance) | fail)
    refine lcQ (l := List.range 6) (enc := N) (g := fun _ => .none) (p := fun _ => true) rfl rfl (by simp) (fun s hs => ?_) ?_
    · have hs := List.mem_range.mp hs
      have c : F_law_refused cl [N s, .tuple (Ns p), .list (Ps ps ++ [pr a2 b2])] = some ⟨false, .none, []⟩ := by
        have := refused_n (cl := cl) (ps := ps ++ [(a2, b2)]) J (by omega) (by omega) (s := s) hs hps2 (by simp) (by simp; omega)
        rw [eP] at this
        exact this
      repeat' (first | infer_instance | fail)
    rw [filt_true]
    repeat' (first | ((fail_if_success (with_reducible apply lcQ)); infer_instance) | fail)
    refine ⟨_, 6, rfl, rfl, ⟨by omega, by simp⟩, ?_⟩
    repeat' (first | infer_instance | fail)
    exact ⟨bx8, _, _, _, _, _, _, hb8.mono (by omega), rfl⟩
  · rintro ρ ⟨bx', x3, x4, x5, x6, x7, x8, hb', rfl⟩
    repeat' (first | infer_instance | fail)
    exact ⟨_, rfl, hb'.mono (by omega)⟩
theorem law_ok : ∀ cl, CInj ["NoPerson", "NoNumber", "NotShortest", "OtherSize"] cl → DL.LawOk (F_law cl) := fun cl I => lawG_ok (cells := 3) (turns := 2) (right_ok I) (by omega) (by omega) (by omega) (by omega)
end K05
set_option maxHeartbeats 8000000
namespace Lw
open PySem PySem.Spec PyProof.Rows L2 DL
open Sh (F_law_cells F_law_box F_law_paired F_law_take F_law_strewn F_law_random F_law_any_call F_law_of F_law_some_calls F_look_person G_look_person F_look_call G_look_call F_after_call F_people_of F_with_joins F_added F_with_call F_look_word G_look_word F_empty_sheet F_sheet_of G_sheet_of F_law_sheet_of F_pairings_along F_called_all F_law_same)
open K05 (F_law_wrong_call F_called G_called G_with_call G_pairings_along G_called_all G_idle_calls F_law_asked G_law_asked F_law_refused F_law_right F_law)
open Id (F_idle_calls)
/-! ### the text -/
def top (i : Nat) : Stmt := PySem.Challenge.pw_partnercall_k05_people_who_are_not_there.main.body.getD i (.Pass ⟨0, 0, 0, 0⟩)
abbrev s_law_cells : Stmt := top 25
abbrev N_law_cells : List Str := ["_law_script", "_law_most", "_law_cells_here", "_law_k", "_law_cell"]
abbrev P_law_cells : List Str := ["_law_script", "_law_most"]
abbrev s_law_box : Stmt := top 23
abbrev N_law_box : List Str := ["_law_script", "_law_k", "_law_cell"]
abbrev P_law_box : List Str := ["_law_script", "_law_k"]
abbrev s_law_paired : Stmt := top 29
abbrev N_law_paired : List Str := ["_law_order", "_law_found", "_law_k"]
abbrev P_law_paired : List Str := ["_law_order"]
abbrev s_law_take : Stmt := top 24
abbrev N_law_take : List Str := ["_law_box_here", "_law_span", "_law_found", "_law_once"]
abbrev P_law_take : List Str := ["_law_box_here", "_law_span"]
abbrev s_law_strewn : Stmt := top 27
abbrev N_law_strewn : List Str := ["_law_box_here", "_law_some", "_law_left", "_law_found"]
abbrev P_law_strewn : List Str := ["_law_box_here", "_law_some"]
abbrev s_law_random : Stmt := top 30
abbrev N_law_random : List Str := ["_law_box_here", "_law_count"]
abbrev P_law_random : List Str := ["_law_box_here", "_law_count"]
abbrev s_law_any_call : Stmt := top 31
abbrev N_law_any_call : List Str := ["_law_box_here", "_law_count", "_law_low"]
abbrev P_law_any_call : List Str := ["_law_box_here", "_law_count"]
abbrev s_law_of : Stmt := top 26
abbrev N_law_of : List Str := ["_law_box_here", "_law_some"]
abbrev P_law_of : List Str := ["_law_box_here", "_law_some"]
abbrev s_law_wrong_call : Stmt := top 36
abbrev N_law_wrong_call : List Str := ["_law_box_here", "_law_count", "_law_low", "_law_high", "_law_far", "_law_near", "_law_sort"]
abbrev P_law_wrong_call : List Str := ["_law_box_here", "_law_count"]
abbrev s_law_some_calls : Stmt := top 32
abbrev N_law_some_calls : List Str := ["_law_box_here", "_law_count", "_law_most", "_law_wide", "_law_turn"]
abbrev P_law_some_calls : List Str := ["_law_box_here", "_law_count", "_law_most"]
abbrev s_look_person : Stmt := top 6
abbrev N_look_person : List Str := ["size", "person"]
abbrev P_look_person : List Str := ["size", "person"]
abbrev s_look_call : Stmt := top 8
abbrev N_look_call : List Str := ["size", "call", "person"]
abbrev P_look_call : List Str := ["size", "call"]
abbrev s_after_call : Stmt := top 10
abbrev N_after_call : List Str := ["pairing", "call", "one", "other", "found", "left", "right"]
abbrev P_after_call : List Str := ["pairing", "call"]
abbrev s_called : Stmt := top 11
abbrev N_called : List Str := ["pairing", "call"]
abbrev P_called : List Str := ["pairing", "call"]
abbrev s_people_of : Stmt := top 16
abbrev N_people_of : List Str := ["sheet"]
abbrev P_people_of : List Str := ["sheet"]
abbrev s_with_joins : Stmt := top 18
abbrev N_with_joins : List Str := ["sheet", "joins", "found", "one", "other"]
abbrev P_with_joins : List Str := ["sheet", "joins"]
abbrev s_added : Stmt := top 19
abbrev N_added : List Str := ["sheet", "call", "size", "one", "other"]
abbrev P_added : List Str := ["sheet", "call"]
abbrev s_with_call : Stmt := top 20
abbrev N_with_call : List Str := ["sheet", "call"]
abbrev P_with_call : List Str := ["sheet", "call"]
abbrev s_look_word : Stmt := top 9
abbrev N_look_word : List Str := ["size", "word", "call"]
abbrev P_look_word : List Str := ["size", "word"]
abbrev s_empty_sheet : Stmt := top 17
abbrev N_empty_sheet : List Str := ["size"]
abbrev P_empty_sheet : List Str := ["size"]
abbrev s_sheet_of : Stmt := top 21
abbrev N_sheet_of : List Str := ["size", "word", "found", "call"]
abbrev P_sheet_of : List Str := ["size", "word"]
abbrev s_law_sheet_of : Stmt := top 33
abbrev N_law_sheet_of : List Str := ["_law_count", "_law_cries", "_law_found", "_law_a", "_law_b", "_law_u", "_law_v", "_law_end"]
abbrev P_law_sheet_of : List Str := ["_law_count", "_law_cries"]
abbrev s_pairings_along : Stmt := top 12
abbrev N_pairings_along : List Str := ["pairing", "word", "found", "call"]
abbrev P_pairings_along : List Str := ["pairing", "word"]
abbrev s_called_all : Stmt := top 13
abbrev N_called_all : List Str := ["pairing", "word"]
abbrev P_called_all : List Str := ["pairing", "word"]
abbrev s_idle_calls : Stmt := top 14
abbrev N_idle_calls : List Str := ["pairing", "word", "along", "index", "before", "after"]
abbrev P_idle_calls : List Str := ["pairing", "word"]
abbrev s_law_asked : Stmt := top 34
abbrev N_law_asked : List Str := ["_law_sort", "_law_crowd", "_law_cries"]
abbrev P_law_asked : List Str := ["_law_sort", "_law_crowd", "_law_cries"]
abbrev s_law_refused : Stmt := top 35
abbrev N_law_refused : List Str := ["_law_sort", "_law_crowd", "_law_cries", "_law_caught", "error", "_law_fine"]
abbrev P_law_refused : List Str := ["_law_sort", "_law_crowd", "_law_cries"]
abbrev s_law_same : Stmt := top 28
abbrev N_law_same : List Str := ["_law_found", "_law_due", "_law_mine", "_law_its"]
abbrev P_law_same : List Str := ["_law_found", "_law_due"]
abbrev s_law_right : Stmt := top 37
abbrev N_law_right : List Str := ["_law_box_here", "_law_count", "_law_crowd", "_law_turn", "_law_wrong", "_law_due", "_law_later", "_law_fine", "_law_told", "_law_sort"]
abbrev P_law_right : List Str := ["_law_box_here"]
abbrev s_law : Stmt := top 38
abbrev N_law : List Str := ["_law_script", "_law_cells_here", "_law_k", "_law_box_here", "_law_turn"]
abbrev P_law : List Str := ["_law_script"]
abbrev sI_NoPerson : Stmt := clsRow (top 1) 0
structure Gb (mg : Str → Option Value) : Prop where
  n_IndexError : mg "IndexError" = none
  n_KeyError : mg "KeyError" = none
  n_LookupError : mg "LookupError" = none
  n_ValueError : mg "ValueError" = none
  n_abs : mg "abs" = none
  n_all : mg "all" = none
  n_bool : mg "bool" = none
  n_enumerate : mg "enumerate" = none
  n_int : mg "int" = none
  n_isinstance : mg "isinstance" = none
  n_len : mg "len" = none
  n_list : mg "list" = none
  n_max : mg "max" = none
  n_range : mg "range" = none
  n_str : mg "str" = none
  n_tuple : mg "tuple" = none
  n_zip : mg "zip" = none
structure Xb (P : Program) (w : World) (K : PySem.W.Frag) (mg : Str → Option Value) (base : Heap) (cl : Str → Addr) : Prop where
  m_NoPerson : mg "NoPerson" = some (.ref (cl "NoPerson"))
  m_NoNumber : mg "NoNumber" = some (.ref (cl "NoNumber"))
  m_NotShortest : mg "NotShortest" = some (.ref (cl "NotShortest"))
  m_OtherSize : mg "OtherSize" = some (.ref (cl "OtherSize"))
  k_NoPerson : Kl1 P w K mg base cl "NoPerson" "person"
  fx_0 : PySem.W.exmAny K (.ref (cl "NoPerson")) [(Value.ref (cl "NoPerson")), (Value.ref (cl "NoNumber")), (Value.ref (cl "NotShortest")), (Value.ref (cl "OtherSize"))] = some true
  fx_1 : PySem.W.kitOne K (.type "NoneType") (Value.ref (cl "NoPerson")) = some false
  fx_2 : PySem.W.kitOne K (.ref (cl "NoPerson")) (Value.ref (cl "NoPerson")) = some true
  fx_3 : PySem.W.kitOne K (.type "NoneType") (Value.type "LookupError") = some false
  fx_4 : PySem.W.kitOne K (.ref (cl "NoPerson")) (Value.type "LookupError") = some true
  fx_5 : PySem.W.kitAny K (.type "NoneType") [(Value.type "IndexError"), (Value.type "KeyError"), (Value.ref (cl "NoNumber")), (Value.type "ValueError")] = some false
  fx_6 : PySem.W.kitAny K (.ref (cl "NoPerson")) [(Value.type "IndexError"), (Value.type "KeyError"), (Value.ref (cl "NoNumber")), (Value.type "ValueError")] = some false
section
variable {P : Program} {w : World} {K : PySem.W.Frag} {mg : Str → Option Value} {base : Heap} {cl : Str → Addr}
theorem scI_NoPerson : FnScope ["self", "person"] ["self", "person"] (defScope sI_NoPerson) := ⟨rfl, rfl, rfl, by decide +kernel, rfl, by decide +kernel, by decide +kernel⟩
theorem okI_NoPerson {C fI : Addr} {fd : FuncData} (F : Fun K "__init__" "NoPerson.__init__" sI_NoPerson fI fd) (T : DX.Own K C "LookupError.__new__" DX.mLE) (B : Gb mg) (vV : PySem.W.findCls K (.type "LookupError") (.type "type") "__init__" = some (.val (.builtin "LookupError.__init__"))) (no : PySem.W.findIn K (.ref C) "person" = some none) : FnOk P w K mg base CX0 1 fI fd ["self", "person"] (DX.spI C "person") := F.ok scI_NoPerson (fun vs H Q E ⟨a, v, e, _⟩ => by rw [e]; rfl) fun cdv A outer s H vs Q E hr ⟨a, v, e, ha, q⟩ =>
  ⟨_, pss_cons (ps_expr (DX.pe_ini DX.bas_LE T rfl B.n_LookupError (by decide +kernel) vV (pa_cons (pe_var (i := 0) rfl (.inl rfl)) (pa_cons (pe_var (i := 1) rfl (.inl rfl)) pa_nil)))) (pss_one (DX.ps_st1 DX.bas_LE T no (pe_var (i := 0) rfl (.inl rfl)) (pe_var (i := 1) rfl (.inl rfl)))), by subst e; exact ⟨.ref a, rfl, v, rfl, a, [v], rfl, by simp, ha, v, rfl, .ref a, rfl, a, rfl, ha, fun d hd ne => q d hd ne⟩⟩
theorem sc_law_cells : FnScope N_law_cells P_law_cells (defScope s_law_cells) := ⟨rfl, rfl, rfl, by decide +kernel, rfl, by decide +kernel, by decide +kernel⟩
theorem ok_law_cells {f_law_cells : Addr} {d_law_cells : FuncData} (A_law_cells : At K mg "_law_cells" s_law_cells P_law_cells f_law_cells d_law_cells) (B : Gb mg) : FnG P w K mg base CX0 1 f_law_cells d_law_cells P_law_cells (spD none F_law_cells) := okD A_law_cells.fn sc_law_cells fun cdv A outer s H E hr => by
  have nd := sc_law_cells.nd
  have hu64 := hr.units
  have hu65 := room65 hr
  exact (dss_cons (ds_set (i := 2) nd (de_callTy call_list_of opA_list rfl B.n_list (by decide +kernel) (da_cons (de_slice (de_var 0) do_none (do_some (de_var 1))) da_nil)))
    (dss_cons (ds_for PassesOwn.never rfl (di_enum rfl B.n_enumerate (de_slice (de_var 0) (do_some (de_var 1)) (do_some de_int))) (dg_tup (n := 2) rfl (dgs_cons (dg_name (i := 3) nd) (dgs_cons (dg_name (i := 4) nd) dgs_nil))) (dss_one (ds_asg (de_bin op_add' op2_add (de_ix ix_seq op2_ix (de_var 2) (de_bin op_mod op2_mod (de_var 3) (de_var 1))) (de_bin op_mul' op2_mul (de_var 4) (de_bin op_add' op2_add (de_var 3) de_int))) (dg_sub (j := 2) (de_bin op_mod op2_mod (de_var 3) (de_var 1))))))
    (dss_one (ds_ret (de_if (dt_cmp (op_neA hu64) op2_ne (de_var 2) (de_lst da_nil) (nomark _)) (de_var 2) (de_lst (da_cons de_int da_nil)))))))
theorem sc_law_box : FnScope N_law_box P_law_box (defScope s_law_box) := ⟨rfl, rfl, rfl, by decide +kernel, rfl, by decide +kernel, by decide +kernel⟩
theorem ok_law_box {f_law_box : Addr} {d_law_box : FuncData} (A_law_box : At K mg "_law_box" s_law_box P_law_box f_law_box d_law_box) (B : Gb mg) : FnG P w K mg base CX0 1 f_law_box d_law_box P_law_box (spD none F_law_box) := okD A_law_box.fn sc_law_box fun cdv A outer s H E hr => by
  have nd := sc_law_box.nd
  have hu64 := hr.units
  have hu65 := room65 hr
  exact (dss_cons (ds_set (i := 2) nd (de_if (dt_cmp op_lt op2_Ib (de_var 1) (de_callB call_len opA_len rfl B.n_len (by decide +kernel) (da_cons (de_var 0) da_nil)) (nomark _)) (de_ix ix_seq op2_ix (de_var 0) (de_var 1)) de_int))
    (dss_one (ds_ret (de_lst (da_cons (de_bin op_mul' op2_mul (de_callB call_abs opA_abs rfl B.n_abs (by decide +kernel) (da_cons (de_var 2) da_nil)) (de_callTy call_int1 opA_int rfl B.n_int (by decide +kernel) (da_cons (de_cmp op_ge op2_Ib (de_callB call_abs opA_abs rfl B.n_abs (by decide +kernel) (da_cons (de_var 2) da_nil)) (de_bin op_pow op2_pow de_int de_int) (nomark _)) da_nil))) (da_cons (de_bin op_add' op2_add (de_bin op_add' op2_add (de_bin op_mod op2_mod (de_var 2) de_int) (de_bin op_mul' op2_mul de_int (de_var 1))) de_int) (da_cons de_int da_nil)))))))
theorem sc_law_paired : FnScope N_law_paired P_law_paired (defScope s_law_paired) := ⟨rfl, rfl, rfl, by decide +kernel, rfl, by decide +kernel, by decide +kernel⟩
theorem ok_law_paired {f_law_paired : Addr} {d_law_paired : FuncData} (A_law_paired : At K mg "_law_paired" s_law_paired P_law_paired f_law_paired d_law_paired) (B : Gb mg) : FnG P w K mg base CX0 1 f_law_paired d_law_paired P_law_paired (spD none F_law_paired) := okD A_law_paired.fn sc_law_paired fun cdv A outer s H E hr => by
  have nd := sc_law_paired.nd
  have hu64 := hr.units
  have hu65 := room65 hr
  exact (dss_cons (ds_set (i := 1) nd (de_rep (de_lst (da_cons de_int da_nil)) (de_callB call_len opA_len rfl B.n_len (by decide +kernel) (da_cons (de_var 0) da_nil))))
    (dss_cons (ds_for PassesOwn.never rfl (di_rng3 rfl B.n_range (da_cons de_int (da_cons (de_callB call_len opA_len rfl B.n_len (by decide +kernel) (da_cons (de_var 0) da_nil)) (da_cons de_int da_nil)))) (dg_name (i := 2) nd) (dss_one (ds_asg (de_tup (da_cons (de_ix ix_seq op2_ix (de_var 0) (de_bin op_add' op2_add (de_var 2) de_int)) (da_cons (de_ix ix_seq op2_ix (de_var 0) (de_var 2)) da_nil))) (dg_tup (n := 2) rfl (dgs_cons (dg_sub (j := 1) (de_ix ix_seq op2_ix (de_var 0) (de_var 2))) (dgs_cons (dg_sub (j := 1) (de_ix ix_seq op2_ix (de_var 0) (de_bin op_add' op2_add (de_var 2) de_int))) dgs_nil))))))
    (dss_one (ds_ret (de_callTy call_tuple_of opA_tuple rfl B.n_tuple (by decide +kernel) (da_cons (de_var 1) da_nil))))))
theorem sc_law_take : FnScope N_law_take P_law_take (defScope s_law_take) := ⟨rfl, rfl, rfl, by decide +kernel, rfl, by decide +kernel, by decide +kernel⟩
theorem ok_law_take {f_law_take : Addr} {d_law_take : FuncData} (A_law_take : At K mg "_law_take" s_law_take P_law_take f_law_take d_law_take) (B : Gb mg) : ∀ m : Nat, FnG P w K mg base CX0 (1 + m) f_law_take d_law_take P_law_take (spD (some 0) (F_law_take m))
  | 0 => fn_none
  | m + 1 => okD (lv := 1 + m) A_law_take.fn sc_law_take fun cdv A outer s H E hr => by
    have ih := ok_law_take A_law_take B m
    have nd := sc_law_take.nd
    have hu64 := hr.units
    have hu65 := room65 hr
    exact (dss_cons (ds_if (dt_cmp op_gt op2_Ib (de_ix ix_seq op2_ix (de_var 0) de_int) de_int (nomark _)) (dss_cons (ds_set (i := 2) nd (de_bin op_mod op2_mod (de_ix ix_seq op2_ix (de_var 0) de_int) (de_var 1)))
        (dss_cons (ds_asg (de_bin op_fdiv' op2_fdiv (de_ix ix_seq op2_ix (de_var 0) de_int) (de_var 1)) (dg_sub (j := 0) de_int))
        (dss_one (ds_ret (de_var 2))))) dss_nil)
        (dss_cons (ds_if (dt_cmp op_gt op2_Ib (de_var 1) (de_bin op_pow op2_pow de_int de_int) (nomark _)) (dss_one (ds_ret (de_bin op_mod op2_mod (de_bin op_add' op2_add (de_call ih (hr.mono (by omega)) rfl A_law_take.mg A_law_take.fn.kp A_law_take.bd (da_cons (de_var 0) (da_cons (de_bin op_pow op2_pow de_int de_int) da_nil))) (de_bin op_mul' op2_mul (de_bin op_pow op2_pow de_int de_int) (de_call ih (hr.mono (by omega)) rfl A_law_take.mg A_law_take.fn.kp A_law_take.bd (da_cons (de_var 0) (da_cons (de_bin op_add' op2_add (de_bin op_fdiv' op2_fdiv (de_bin op_sub op2_I (de_var 1) de_int) (de_bin op_pow op2_pow de_int de_int)) de_int) da_nil))))) (de_var 1)))) dss_nil)
        (dss_cons (ds_asg (de_bin op_add' op2_add (de_ix ix_seq op2_ix (de_var 0) de_int) de_int) (dg_sub (j := 0) de_int))
        (dss_cons (ds_set (i := 3) nd (de_bin op_mod op2_mod (de_bin op_pow op2_pow (de_bin op_add' op2_add (de_ix ix_seq op2_ix (de_var 0) de_int) (de_bin op_mul' op2_mul de_int (de_ix ix_seq op2_ix (de_var 0) de_int))) de_int) de_int))
        (dss_one (ds_ret (de_bin op_mod op2_mod (de_bin op_fdiv' op2_fdiv (de_bin op_mod op2_mod (de_bin op_add' op2_add (de_bin op_mul' op2_mul (de_var 3) (de_bin op_add' op2_add (de_bin op_mod op2_mod (de_var 3) de_int) de_int)) (de_bin op_mul' op2_mul (de_ix ix_seq op2_ix (de_var 0) de_int) de_int)) de_int) de_int) (de_var 1))))))))
theorem sc_law_strewn : FnScope N_law_strewn P_law_strewn (defScope s_law_strewn) := ⟨rfl, rfl, rfl, by decide +kernel, rfl, by decide +kernel, by decide +kernel⟩
theorem ok_law_strewn {f_law_strewn : Addr} {d_law_strewn : FuncData} (A_law_strewn : At K mg "_law_strewn" s_law_strewn P_law_strewn f_law_strewn d_law_strewn) {f_law_take : Addr} {d_law_take : FuncData} (A_law_take : At K mg "_law_take" s_law_take P_law_take f_law_take d_law_take) (ok_law_take : FnG P w K mg base CX0 4 f_law_take d_law_take P_law_take (spD (some 0) (F_law_take 3))) (B : Gb mg) : FnG P w K mg base CX0 5 f_law_strewn d_law_strewn P_law_strewn (spD (some 0) F_law_strewn) := okD A_law_strewn.fn sc_law_strewn fun cdv A outer s H E hr => by
  have nd := sc_law_strewn.nd
  have hu64 := hr.units
  have hu65 := room65 hr
  exact (dss_cons (ds_par (i := 2) (j := 3) rfl nd (da_cons (de_callTy call_list_of opA_list rfl B.n_list (by decide +kernel) (da_cons (de_var 1) da_nil)) (da_cons (de_lst da_nil) da_nil)))
    (dss_cons (ds_while 1000000 PassesOwn.never (dt_cmp (op_neA hu64) op2_ne (de_var 2) (de_lst da_nil) (nomark _)) (dss_one (ds_expr (de_meth 3 PySem.F.slot_list_append PySem.F.type_list_append mt_append opM_append (da_cons (de_meth 2 PySem.F.slot_list_pop PySem.F.type_list_pop mt_popA opM_pop (da_cons (de_call ok_law_take (hr.mono (by decide)) rfl A_law_take.mg A_law_take.fn.kp A_law_take.bd (da_cons (de_var 0) (da_cons (de_callB call_len opA_len rfl B.n_len (by decide +kernel) (da_cons (de_var 2) da_nil)) da_nil))) da_nil)) da_nil)))))
    (dss_one (ds_ret (de_var 3)))))
theorem sc_law_random : FnScope N_law_random P_law_random (defScope s_law_random) := ⟨rfl, rfl, rfl, by decide +kernel, rfl, by decide +kernel, by decide +kernel⟩
theorem ok_law_random {f_law_random : Addr} {d_law_random : FuncData} (A_law_random : At K mg "_law_random" s_law_random P_law_random f_law_random d_law_random) {f_law_paired : Addr} {d_law_paired : FuncData} (A_law_paired : At K mg "_law_paired" s_law_paired P_law_paired f_law_paired d_law_paired) {f_law_strewn : Addr} {d_law_strewn : FuncData} (A_law_strewn : At K mg "_law_strewn" s_law_strewn P_law_strewn f_law_strewn d_law_strewn) (ok_law_paired : FnG P w K mg base CX0 1 f_law_paired d_law_paired P_law_paired (spD none F_law_paired)) (ok_law_strewn : FnG P w K mg base CX0 5 f_law_strewn d_law_strewn P_law_strewn (spD (some 0) F_law_strewn)) (B : Gb mg) : FnG P w K mg base CX0 6 f_law_random d_law_random P_law_random (spD (some 0) F_law_random) := okD A_law_random.fn sc_law_random fun cdv A outer s H E hr => by
  have nd := sc_law_random.nd
  have hu64 := hr.units
  have hu65 := room65 hr
  exact (dss_one (ds_ret (de_call ok_law_paired (hr.mono (by decide)) rfl A_law_paired.mg A_law_paired.fn.kp A_law_paired.bd (da_cons (de_call ok_law_strewn (hr.mono (by decide)) rfl A_law_strewn.mg A_law_strewn.fn.kp A_law_strewn.bd (da_cons (de_var 0) (da_cons (de_lrg1 rfl rfl B.n_list rfl B.n_range (de_var 1)) da_nil))) da_nil))))
theorem sc_law_any_call : FnScope N_law_any_call P_law_any_call (defScope s_law_any_call) := ⟨rfl, rfl, rfl, by decide +kernel, rfl, by decide +kernel, by decide +kernel⟩
theorem ok_law_any_call {f_law_any_call : Addr} {d_law_any_call : FuncData} (A_law_any_call : At K mg "_law_any_call" s_law_any_call P_law_any_call f_law_any_call d_law_any_call) {f_law_take : Addr} {d_law_take : FuncData} (A_law_take : At K mg "_law_take" s_law_take P_law_take f_law_take d_law_take) (ok_law_take : FnG P w K mg base CX0 4 f_law_take d_law_take P_law_take (spD (some 0) (F_law_take 3))) (B : Gb mg) : FnG P w K mg base CX0 5 f_law_any_call d_law_any_call P_law_any_call (spD (some 0) F_law_any_call) := okD A_law_any_call.fn sc_law_any_call fun cdv A outer s H E hr => by
  have nd := sc_law_any_call.nd
  have hu64 := hr.units
  have hu65 := room65 hr
  exact (dss_cons (ds_set (i := 2) nd (de_call ok_law_take (hr.mono (by decide)) rfl A_law_take.mg A_law_take.fn.kp A_law_take.bd (da_cons (de_var 0) (da_cons (de_bin op_sub op2_I (de_var 1) de_int) da_nil))))
    (dss_one (ds_ret (de_tup (da_cons (de_var 2) (da_cons (de_bin op_add' op2_add (de_bin op_add' op2_add (de_var 2) de_int) (de_call ok_law_take (hr.mono (by decide)) rfl A_law_take.mg A_law_take.fn.kp A_law_take.bd (da_cons (de_var 0) (da_cons (de_bin op_sub op2_I (de_bin op_sub op2_I (de_var 1) de_int) (de_var 2)) da_nil)))) da_nil))))))
theorem sc_law_of : FnScope N_law_of P_law_of (defScope s_law_of) := ⟨rfl, rfl, rfl, by decide +kernel, rfl, by decide +kernel, by decide +kernel⟩
theorem ok_law_of {f_law_of : Addr} {d_law_of : FuncData} (A_law_of : At K mg "_law_of" s_law_of P_law_of f_law_of d_law_of) {f_law_take : Addr} {d_law_take : FuncData} (A_law_take : At K mg "_law_take" s_law_take P_law_take f_law_take d_law_take) (ok_law_take : FnG P w K mg base CX0 4 f_law_take d_law_take P_law_take (spD (some 0) (F_law_take 3))) (B : Gb mg) : FnG P w K mg base CX0 5 f_law_of d_law_of P_law_of (spD (some 0) F_law_of) := okD A_law_of.fn sc_law_of fun cdv A outer s H E hr => by
  have nd := sc_law_of.nd
  have hu64 := hr.units
  have hu65 := room65 hr
  exact (dss_one (ds_ret (de_ix ix_seq op2_ix (de_var 1) (de_call ok_law_take (hr.mono (by decide)) rfl A_law_take.mg A_law_take.fn.kp A_law_take.bd (da_cons (de_var 0) (da_cons (de_callB call_len opA_len rfl B.n_len (by decide +kernel) (da_cons (de_var 1) da_nil)) da_nil))))))
theorem sc_law_wrong_call : FnScope N_law_wrong_call P_law_wrong_call (defScope s_law_wrong_call) := ⟨rfl, rfl, rfl, by decide +kernel, rfl, by decide +kernel, by decide +kernel⟩
theorem ok_law_wrong_call {f_law_wrong_call : Addr} {d_law_wrong_call : FuncData} (A_law_wrong_call : At K mg "_law_wrong_call" s_law_wrong_call P_law_wrong_call f_law_wrong_call d_law_wrong_call) {f_law_any_call : Addr} {d_law_any_call : FuncData} (A_law_any_call : At K mg "_law_any_call" s_law_any_call P_law_any_call f_law_any_call d_law_any_call) {f_law_of : Addr} {d_law_of : FuncData} (A_law_of : At K mg "_law_of" s_law_of P_law_of f_law_of d_law_of) {f_law_take : Addr} {d_law_take : FuncData} (A_law_take : At K mg "_law_take" s_law_take P_law_take f_law_take d_law_take) (ok_law_any_call : FnG P w K mg base CX0 5 f_law_any_call d_law_any_call P_law_any_call (spD (some 0) F_law_any_call)) (ok_law_of : FnG P w K mg base CX0 5 f_law_of d_law_of P_law_of (spD (some 0) F_law_of)) (ok_law_take : FnG P w K mg base CX0 4 f_law_take d_law_take P_law_take (spD (some 0) (F_law_take 3))) (B : Gb mg) : FnG P w K mg base CX0 6 f_law_wrong_call d_law_wrong_call P_law_wrong_call (spD (some 0) F_law_wrong_call) := okD A_law_wrong_call.fn sc_law_wrong_call fun cdv A outer s H E hr => by
  have nd := sc_law_wrong_call.nd
  have hu64 := hr.units
  have hu65 := room65 hr
  exact (dss_cons (ds_asg (de_call ok_law_any_call (hr.mono (by decide)) rfl A_law_any_call.mg A_law_any_call.fn.kp A_law_any_call.bd (da_cons (de_var 0) (da_cons (de_var 1) da_nil))) (dg_tup (n := 2) rfl (dgs_cons (dg_name (i := 2) nd) (dgs_cons (dg_name (i := 3) nd) dgs_nil))))
    (dss_cons (ds_set (i := 4) nd (de_call ok_law_of (hr.mono (by decide)) rfl A_law_of.mg A_law_of.fn.kp A_law_of.bd (da_cons (de_var 0) (da_cons (de_lst (da_cons (de_var 1) (da_cons (de_bin op_add' op2_add (de_bin op_add' op2_add (de_var 1) de_int) (de_call ok_law_take (hr.mono (by decide)) rfl A_law_take.mg A_law_take.fn.kp A_law_take.bd (da_cons (de_var 0) (da_cons de_int da_nil)))) (da_cons (de_bin op_pow op2_pow de_int de_int) da_nil)))) da_nil))))
    (dss_cons (ds_set (i := 5) nd (de_call ok_law_of (hr.mono (by decide)) rfl A_law_of.mg A_law_of.fn.kp A_law_of.bd (da_cons (de_var 0) (da_cons (de_lst (da_cons (de_un un_neg op1_neg de_int) (da_cons (de_bin op_sub op2_I (de_un un_neg op1_neg de_int) (de_call ok_law_take (hr.mono (by decide)) rfl A_law_take.mg A_law_take.fn.kp A_law_take.bd (da_cons (de_var 0) (da_cons de_int da_nil)))) (da_cons (de_un un_neg op1_neg (de_bin op_pow op2_pow de_int de_int)) da_nil)))) da_nil))))
    (dss_cons (ds_set (i := 6) nd (de_call ok_law_take (hr.mono (by decide)) rfl A_law_take.mg A_law_take.fn.kp A_law_take.bd (da_cons (de_var 0) (da_cons de_int da_nil))))
    (dss_one (ds_ret (de_ix ix_seq op2_ix (de_lst (da_cons (de_tup (da_cons (de_tup (da_cons (de_var 2) (da_cons (de_var 4) da_nil))) (da_cons (de_var 4) da_nil))) (da_cons (de_tup (da_cons (de_tup (da_cons (de_var 5) (da_cons (de_var 3) da_nil))) (da_cons (de_var 5) da_nil))) (da_cons (de_tup (da_cons (de_tup (da_cons (de_var 5) (da_cons (de_var 4) da_nil))) (da_cons (de_var 5) da_nil))) (da_cons (de_tup (da_cons (de_tup (da_cons (de_var 4) (da_cons (de_bin op_add' op2_add (de_var 4) de_int) da_nil))) (da_cons (de_var 4) da_nil))) da_nil))))) (de_var 6))))))))
theorem sc_law_some_calls : FnScope N_law_some_calls P_law_some_calls (defScope s_law_some_calls) := ⟨rfl, rfl, rfl, by decide +kernel, rfl, by decide +kernel, by decide +kernel⟩
theorem ok_law_some_calls {f_law_some_calls : Addr} {d_law_some_calls : FuncData} (A_law_some_calls : At K mg "_law_some_calls" s_law_some_calls P_law_some_calls f_law_some_calls d_law_some_calls) {f_law_of : Addr} {d_law_of : FuncData} (A_law_of : At K mg "_law_of" s_law_of P_law_of f_law_of d_law_of) {f_law_any_call : Addr} {d_law_any_call : FuncData} (A_law_any_call : At K mg "_law_any_call" s_law_any_call P_law_any_call f_law_any_call d_law_any_call) {f_law_take : Addr} {d_law_take : FuncData} (A_law_take : At K mg "_law_take" s_law_take P_law_take f_law_take d_law_take) (ok_law_of : FnG P w K mg base CX0 5 f_law_of d_law_of P_law_of (spD (some 0) F_law_of)) (ok_law_any_call : FnG P w K mg base CX0 5 f_law_any_call d_law_any_call P_law_any_call (spD (some 0) F_law_any_call)) (ok_law_take : FnG P w K mg base CX0 4 f_law_take d_law_take P_law_take (spD (some 0) (F_law_take 3))) (B : Gb mg) : FnG P w K mg base CX0 6 f_law_some_calls d_law_some_calls P_law_some_calls (spD (some 0) F_law_some_calls) := okD A_law_some_calls.fn sc_law_some_calls fun cdv A outer s H E hr => by
  have nd := sc_law_some_calls.nd
  have hu64 := hr.units
  have hu65 := room65 hr
  exact (dss_cons (ds_set (i := 3) nd (de_call ok_law_of (hr.mono (by decide)) rfl A_law_of.mg A_law_of.fn.kp A_law_of.bd (da_cons (de_var 0) (da_cons (de_lst (da_cons (de_var 1) (da_cons (de_var 1) (da_cons (de_callB (call_maxA rfl) opA_max rfl B.n_max (by decide +kernel) (da_cons de_int (da_cons (de_bin op_fdiv' op2_fdiv (de_var 1) de_int) da_nil))) da_nil)))) da_nil))))
    (dss_one (ds_ret (de_lc (own := [("_law_turn", 4)]) rfl nd (di_rng1 rfl B.n_range (da_cons (de_call ok_law_take (hr.mono (by decide)) rfl A_law_take.mg A_law_take.fn.kp A_law_take.bd (da_cons (de_var 0) (da_cons (de_bin op_add' op2_add (de_var 2) de_int) da_nil))) da_nil)) (blkOk_by (N := N_law_some_calls) (sc := defScope s_law_some_calls) (by decide +kernel)) (fun _ _ _ _ _ => (dg_name (i := 4) nd)) (fun _ _ _ _ _ => dts_nil) (fun _ _ _ _ _ => (de_call ok_law_any_call (hr.mono (by decide)) rfl A_law_any_call.mg A_law_any_call.fn.kp A_law_any_call.bd (da_cons (de_var 0) (da_cons (de_var 3) da_nil))))))))
theorem sc_look_person : FnScope N_look_person P_look_person (defScope s_look_person) := ⟨rfl, rfl, rfl, by decide +kernel, rfl, by decide +kernel, by decide +kernel⟩
theorem ok_look_person {f_look_person : Addr} {d_look_person : FuncData} (A_look_person : At K mg "look_person" s_look_person P_look_person f_look_person d_look_person) (B : Gb mg) : FnG P w K mg base CX0 3 f_look_person d_look_person P_look_person (spD none F_look_person) := okD A_look_person.fn sc_look_person fun cdv A outer s H E hr => by
  have nd := sc_look_person.nd
  have hu64 := hr.units
  have hu65 := room65 hr
  exact (dss_one (ds_if (dt_not (dt_chain op_le op_lt op2_Ib op2_Ib de_int (de_var 1) (de_var 0))) dss_never dss_nil))
theorem okx_look_person {f_look_person : Addr} {d_look_person : FuncData} (A_look_person : At K mg "look_person" s_look_person P_look_person f_look_person d_look_person) (XB : Xb P w K mg base cl) (B : Gb mg) : FnG P w K mg base (L2.CX P w) 3 f_look_person d_look_person P_look_person (spX cl G_look_person) := okDX A_look_person.fn sc_look_person fun cdv A outer s H E hr po => by
  have nd := sc_look_person.nd
  have hu64 := hr.units
  have hu65 := room65 hr
  exact (dssx_here (dsx_if (dt_not (dt_chain op_le op_lt op2_Ib op2_Ib de_int (de_var 1) (de_var 0))) (dssx_here (dsx_raise1 rfl XB.k_NoPerson hr rfl (da_cons (de_var 1) da_nil))) dssx_no))
theorem sc_look_call : FnScope N_look_call P_look_call (defScope s_look_call) := ⟨rfl, rfl, rfl, by decide +kernel, rfl, by decide +kernel, by decide +kernel⟩
theorem ok_look_call {f_look_call : Addr} {d_look_call : FuncData} (A_look_call : At K mg "look_call" s_look_call P_look_call f_look_call d_look_call) {f_look_person : Addr} {d_look_person : FuncData} (A_look_person : At K mg "look_person" s_look_person P_look_person f_look_person d_look_person) (ok_look_person : FnG P w K mg base CX0 3 f_look_person d_look_person P_look_person (spD none F_look_person)) (B : Gb mg) : FnG P w K mg base CX0 4 f_look_call d_look_call P_look_call (spD none F_look_call) := okD A_look_call.fn sc_look_call fun cdv A outer s H E hr => by
  have nd := sc_look_call.nd
  have hu64 := hr.units
  have hu65 := room65 hr
  exact (dss_one (ds_for PassesOwn.never rfl (di_seq (de_var 1)) (dg_name (i := 2) nd) (dss_one (ds_expr (de_call ok_look_person (hr.mono (by decide)) rfl A_look_person.mg A_look_person.fn.kp A_look_person.bd (da_cons (de_var 0) (da_cons (de_var 2) da_nil)))))))
theorem okx_look_call {f_look_call : Addr} {d_look_call : FuncData} (A_look_call : At K mg "look_call" s_look_call P_look_call f_look_call d_look_call) {f_look_person : Addr} {d_look_person : FuncData} (A_look_person : At K mg "look_person" s_look_person P_look_person f_look_person d_look_person) (ok_look_person : FnG P w K mg base CX0 3 f_look_person d_look_person P_look_person (spD none F_look_person)) (okx_look_person : FnG P w K mg base (L2.CX P w) 3 f_look_person d_look_person P_look_person (spX cl G_look_person)) (XB : Xb P w K mg base cl) (B : Gb mg) : FnG P w K mg base (L2.CX P w) 4 f_look_call d_look_call P_look_call (spX cl G_look_call) := okDX A_look_call.fn sc_look_call fun cdv A outer s H E hr po => by
  have nd := sc_look_call.nd
  have hu64 := hr.units
  have hu65 := room65 hr
  exact (dssx_here (dsx_for po rfl (di_seq (de_var 1)) (dg_name (i := 2) nd) (dss_one (ds_expr (de_call ok_look_person (hr.mono (by decide)) rfl A_look_person.mg A_look_person.fn.kp A_look_person.bd (da_cons (de_var 0) (da_cons (de_var 2) da_nil))))) (dssx_here (dsx_expr (dex_call okx_look_person (hr.mono (by decide)) rfl A_look_person.mg A_look_person.fn.kp A_look_person.bd (da_cons (de_var 0) (da_cons (de_var 2) da_nil)))))))
theorem sc_after_call : FnScope N_after_call P_after_call (defScope s_after_call) := ⟨rfl, rfl, rfl, by decide +kernel, rfl, by decide +kernel, by decide +kernel⟩
theorem ok_after_call {f_after_call : Addr} {d_after_call : FuncData} (A_after_call : At K mg "after_call" s_after_call P_after_call f_after_call d_after_call) (B : Gb mg) : FnG P w K mg base CX0 1 f_after_call d_after_call P_after_call (spD none F_after_call) := okD A_after_call.fn sc_after_call fun cdv A outer s H E hr => by
  have nd := sc_after_call.nd
  have hu64 := hr.units
  have hu65 := room65 hr
  exact (dss_cons (ds_asg (de_var 1) (dg_tup (n := 2) rfl (dgs_cons (dg_name (i := 2) nd) (dgs_cons (dg_name (i := 3) nd) dgs_nil))))
    (dss_cons (ds_set (i := 4) nd (de_callTy call_list_of opA_list rfl B.n_list (by decide +kernel) (da_cons (de_var 0) da_nil)))
    (dss_cons (ds_if (dt_cmp (op_neA hu64) op2_ne (de_ix ix_seq op2_ix (de_var 4) (de_var 2)) (de_var 3) (nomark _)) (dss_cons (ds_par (i := 5) (j := 6) rfl nd (da_cons (de_ix ix_seq op2_ix (de_var 4) (de_var 2)) (da_cons (de_ix ix_seq op2_ix (de_var 4) (de_var 3)) da_nil)))
    (dss_one (ds_asg (de_tup (da_cons (de_var 3) (da_cons (de_var 2) (da_cons (de_var 6) (da_cons (de_var 5) da_nil))))) (dg_tup (n := 4) rfl (dgs_cons (dg_sub (j := 4) (de_var 2)) (dgs_cons (dg_sub (j := 4) (de_var 3)) (dgs_cons (dg_sub (j := 4) (de_var 5)) (dgs_cons (dg_sub (j := 4) (de_var 6)) dgs_nil)))))))) dss_nil)
    (dss_one (ds_ret (de_callTy call_tuple_of opA_tuple rfl B.n_tuple (by decide +kernel) (da_cons (de_var 4) da_nil)))))))
theorem sc_called : FnScope N_called P_called (defScope s_called) := ⟨rfl, rfl, rfl, by decide +kernel, rfl, by decide +kernel, by decide +kernel⟩
theorem ok_called {f_called : Addr} {d_called : FuncData} (A_called : At K mg "called" s_called P_called f_called d_called) {f_look_call : Addr} {d_look_call : FuncData} (A_look_call : At K mg "look_call" s_look_call P_look_call f_look_call d_look_call) {f_after_call : Addr} {d_after_call : FuncData} (A_after_call : At K mg "after_call" s_after_call P_after_call f_after_call d_after_call) (ok_look_call : FnG P w K mg base CX0 4 f_look_call d_look_call P_look_call (spD none F_look_call)) (ok_after_call : FnG P w K mg base CX0 1 f_after_call d_after_call P_after_call (spD none F_after_call)) (B : Gb mg) : FnG P w K mg base CX0 5 f_called d_called P_called (spD none F_called) := okD A_called.fn sc_called fun cdv A outer s H E hr => by
  have nd := sc_called.nd
  have hu64 := hr.units
  have hu65 := room65 hr
  exact (dss_cons (ds_expr (de_call ok_look_call (hr.mono (by decide)) rfl A_look_call.mg A_look_call.fn.kp A_look_call.bd (da_cons (de_callB call_len opA_len rfl B.n_len (by decide +kernel) (da_cons (de_var 0) da_nil)) (da_cons (de_var 1) da_nil))))
    (dss_one (ds_ret (de_call ok_after_call (hr.mono (by decide)) rfl A_after_call.mg A_after_call.fn.kp A_after_call.bd (da_cons (de_var 0) (da_cons (de_var 1) da_nil))))))
theorem okx_called {f_called : Addr} {d_called : FuncData} (A_called : At K mg "called" s_called P_called f_called d_called) {f_look_call : Addr} {d_look_call : FuncData} (A_look_call : At K mg "look_call" s_look_call P_look_call f_look_call d_look_call) {f_after_call : Addr} {d_after_call : FuncData} (A_after_call : At K mg "after_call" s_after_call P_after_call f_after_call d_after_call) (ok_look_call : FnG P w K mg base CX0 4 f_look_call d_look_call P_look_call (spD none F_look_call)) (ok_after_call : FnG P w K mg base CX0 1 f_after_call d_after_call P_after_call (spD none F_after_call)) (okx_look_call : FnG P w K mg base (L2.CX P w) 4 f_look_call d_look_call P_look_call (spX cl G_look_call)) (XB : Xb P w K mg base cl) (B : Gb mg) : FnG P w K mg base (L2.CX P w) 5 f_called d_called P_called (spX cl G_called) := okDX A_called.fn sc_called fun cdv A outer s H E hr po => by
  have nd := sc_called.nd
  have hu64 := hr.units
  have hu65 := room65 hr
  exact (dssx_here (dsx_expr (dex_call okx_look_call (hr.mono (by decide)) rfl A_look_call.mg A_look_call.fn.kp A_look_call.bd (da_cons (de_callB call_len opA_len rfl B.n_len (by decide +kernel) (da_cons (de_var 0) da_nil)) (da_cons (de_var 1) da_nil)))))
theorem sc_people_of : FnScope N_people_of P_people_of (defScope s_people_of) := ⟨rfl, rfl, rfl, by decide +kernel, rfl, by decide +kernel, by decide +kernel⟩
theorem ok_people_of {f_people_of : Addr} {d_people_of : FuncData} (A_people_of : At K mg "people_of" s_people_of P_people_of f_people_of d_people_of) (B : Gb mg) : FnG P w K mg base CX0 1 f_people_of d_people_of P_people_of (spD none F_people_of) := okD A_people_of.fn sc_people_of fun cdv A outer s H E hr => by
  have nd := sc_people_of.nd
  have hu64 := hr.units
  have hu65 := room65 hr
  exact (dss_one (ds_ret (de_bin op_fdiv' op2_fdiv (de_callB call_len opA_len rfl B.n_len (by decide +kernel) (da_cons (de_var 0) da_nil)) de_int)))
theorem sc_with_joins : FnScope N_with_joins P_with_joins (defScope s_with_joins) := ⟨rfl, rfl, rfl, by decide +kernel, rfl, by decide +kernel, by decide +kernel⟩
theorem ok_with_joins {f_with_joins : Addr} {d_with_joins : FuncData} (A_with_joins : At K mg "with_joins" s_with_joins P_with_joins f_with_joins d_with_joins) (B : Gb mg) : FnG P w K mg base CX0 1 f_with_joins d_with_joins P_with_joins (spD none F_with_joins) := okD A_with_joins.fn sc_with_joins fun cdv A outer s H E hr => by
  have nd := sc_with_joins.nd
  have hu64 := hr.units
  have hu65 := room65 hr
  exact (dss_cons (ds_set (i := 2) nd (de_callTy call_list_of opA_list rfl B.n_list (by decide +kernel) (da_cons (de_var 0) da_nil)))
    (dss_cons (ds_for PassesOwn.never rfl (di_seq (de_var 1)) (dg_tup (n := 2) rfl (dgs_cons (dg_name (i := 3) nd) (dgs_cons (dg_name (i := 4) nd) dgs_nil))) (dss_one (ds_asg (de_tup (da_cons (de_var 4) (da_cons (de_var 3) da_nil))) (dg_tup (n := 2) rfl (dgs_cons (dg_sub (j := 2) (de_var 3)) (dgs_cons (dg_sub (j := 2) (de_var 4)) dgs_nil))))))
    (dss_one (ds_ret (de_callTy call_tuple_of opA_tuple rfl B.n_tuple (by decide +kernel) (da_cons (de_var 2) da_nil))))))
theorem sc_added : FnScope N_added P_added (defScope s_added) := ⟨rfl, rfl, rfl, by decide +kernel, rfl, by decide +kernel, by decide +kernel⟩
theorem ok_added {f_added : Addr} {d_added : FuncData} (A_added : At K mg "added" s_added P_added f_added d_added) {f_people_of : Addr} {d_people_of : FuncData} (A_people_of : At K mg "people_of" s_people_of P_people_of f_people_of d_people_of) {f_with_joins : Addr} {d_with_joins : FuncData} (A_with_joins : At K mg "with_joins" s_with_joins P_with_joins f_with_joins d_with_joins) (ok_people_of : FnG P w K mg base CX0 1 f_people_of d_people_of P_people_of (spD none F_people_of)) (ok_with_joins : FnG P w K mg base CX0 1 f_with_joins d_with_joins P_with_joins (spD none F_with_joins)) (B : Gb mg) : FnG P w K mg base CX0 2 f_added d_added P_added (spD none F_added) := okD A_added.fn sc_added fun cdv A outer s H E hr => by
  have nd := sc_added.nd
  have hu64 := hr.units
  have hu65 := room65 hr
  exact (dss_cons (ds_set (i := 2) nd (de_call ok_people_of (hr.mono (by decide)) rfl A_people_of.mg A_people_of.fn.kp A_people_of.bd (da_cons (de_var 0) da_nil)))
    (dss_cons (ds_par (i := 3) (j := 4) rfl nd (da_cons (de_bin op_add' op2_add (de_var 2) (de_ix ix_seq op2_ix (de_var 1) de_int)) (da_cons (de_bin op_add' op2_add (de_var 2) (de_ix ix_seq op2_ix (de_var 1) de_int)) da_nil)))
    (dss_cons (ds_if (dt_cmp (op_eqA hu64) op2_eq (de_ix ix_seq op2_ix (de_var 0) (de_var 3)) (de_var 4) (nomark _)) (dss_one (ds_ret (de_callTy call_tuple_of opA_tuple rfl B.n_tuple (by decide +kernel) (da_cons (de_var 0) da_nil)))) dss_nil)
    (dss_one (ds_ret (de_call ok_with_joins (hr.mono (by decide)) rfl A_with_joins.mg A_with_joins.fn.kp A_with_joins.bd (da_cons (de_var 0) (da_consL (de_lst (da_cons (de_tup (da_cons (de_ix ix_seq op2_ix (de_var 0) (de_var 3)) (da_cons (de_ix ix_seq op2_ix (de_var 0) (de_var 4)) da_nil))) (da_cons (de_tup (da_cons (de_var 3) (da_cons (de_var 4) da_nil))) da_nil))) da_nil))))))))
theorem sc_with_call : FnScope N_with_call P_with_call (defScope s_with_call) := ⟨rfl, rfl, rfl, by decide +kernel, rfl, by decide +kernel, by decide +kernel⟩
theorem ok_with_call {f_with_call : Addr} {d_with_call : FuncData} (A_with_call : At K mg "with_call" s_with_call P_with_call f_with_call d_with_call) {f_look_call : Addr} {d_look_call : FuncData} (A_look_call : At K mg "look_call" s_look_call P_look_call f_look_call d_look_call) {f_added : Addr} {d_added : FuncData} (A_added : At K mg "added" s_added P_added f_added d_added) {f_people_of : Addr} {d_people_of : FuncData} (A_people_of : At K mg "people_of" s_people_of P_people_of f_people_of d_people_of) (ok_look_call : FnG P w K mg base CX0 4 f_look_call d_look_call P_look_call (spD none F_look_call)) (ok_added : FnG P w K mg base CX0 2 f_added d_added P_added (spD none F_added)) (ok_people_of : FnG P w K mg base CX0 1 f_people_of d_people_of P_people_of (spD none F_people_of)) (B : Gb mg) : FnG P w K mg base CX0 5 f_with_call d_with_call P_with_call (spD none F_with_call) := okD A_with_call.fn sc_with_call fun cdv A outer s H E hr => by
  have nd := sc_with_call.nd
  have hu64 := hr.units
  have hu65 := room65 hr
  exact (dss_cons (ds_expr (de_call ok_look_call (hr.mono (by decide)) rfl A_look_call.mg A_look_call.fn.kp A_look_call.bd (da_cons (de_call ok_people_of (hr.mono (by decide)) rfl A_people_of.mg A_people_of.fn.kp A_people_of.bd (da_cons (de_var 0) da_nil)) (da_cons (de_var 1) da_nil))))
    (dss_one (ds_ret (de_call ok_added (hr.mono (by decide)) rfl A_added.mg A_added.fn.kp A_added.bd (da_cons (de_var 0) (da_cons (de_var 1) da_nil))))))
theorem okx_with_call {f_with_call : Addr} {d_with_call : FuncData} (A_with_call : At K mg "with_call" s_with_call P_with_call f_with_call d_with_call) {f_look_call : Addr} {d_look_call : FuncData} (A_look_call : At K mg "look_call" s_look_call P_look_call f_look_call d_look_call) {f_added : Addr} {d_added : FuncData} (A_added : At K mg "added" s_added P_added f_added d_added) {f_people_of : Addr} {d_people_of : FuncData} (A_people_of : At K mg "people_of" s_people_of P_people_of f_people_of d_people_of) (ok_look_call : FnG P w K mg base CX0 4 f_look_call d_look_call P_look_call (spD none F_look_call)) (ok_added : FnG P w K mg base CX0 2 f_added d_added P_added (spD none F_added)) (ok_people_of : FnG P w K mg base CX0 1 f_people_of d_people_of P_people_of (spD none F_people_of)) (okx_look_call : FnG P w K mg base (L2.CX P w) 4 f_look_call d_look_call P_look_call (spX cl G_look_call)) (XB : Xb P w K mg base cl) (B : Gb mg) : FnG P w K mg base (L2.CX P w) 5 f_with_call d_with_call P_with_call (spX cl G_with_call) := okDX A_with_call.fn sc_with_call fun cdv A outer s H E hr po => by
  have nd := sc_with_call.nd
  have hu64 := hr.units
  have hu65 := room65 hr
  exact (dssx_here (dsx_expr (dex_call okx_look_call (hr.mono (by decide)) rfl A_look_call.mg A_look_call.fn.kp A_look_call.bd (da_cons (de_call ok_people_of (hr.mono (by decide)) rfl A_people_of.mg A_people_of.fn.kp A_people_of.bd (da_cons (de_var 0) da_nil)) (da_cons (de_var 1) da_nil)))))
theorem sc_look_word : FnScope N_look_word P_look_word (defScope s_look_word) := ⟨rfl, rfl, rfl, by decide +kernel, rfl, by decide +kernel, by decide +kernel⟩
theorem ok_look_word {f_look_word : Addr} {d_look_word : FuncData} (A_look_word : At K mg "look_word" s_look_word P_look_word f_look_word d_look_word) {f_look_call : Addr} {d_look_call : FuncData} (A_look_call : At K mg "look_call" s_look_call P_look_call f_look_call d_look_call) (ok_look_call : FnG P w K mg base CX0 4 f_look_call d_look_call P_look_call (spD none F_look_call)) (B : Gb mg) : FnG P w K mg base CX0 5 f_look_word d_look_word P_look_word (spD none F_look_word) := okD A_look_word.fn sc_look_word fun cdv A outer s H E hr => by
  have nd := sc_look_word.nd
  have hu64 := hr.units
  have hu65 := room65 hr
  exact (dss_one (ds_for PassesOwn.never rfl (di_seq (de_var 1)) (dg_name (i := 2) nd) (dss_one (ds_expr (de_call ok_look_call (hr.mono (by decide)) rfl A_look_call.mg A_look_call.fn.kp A_look_call.bd (da_cons (de_var 0) (da_cons (de_var 2) da_nil)))))))
theorem okx_look_word {f_look_word : Addr} {d_look_word : FuncData} (A_look_word : At K mg "look_word" s_look_word P_look_word f_look_word d_look_word) {f_look_call : Addr} {d_look_call : FuncData} (A_look_call : At K mg "look_call" s_look_call P_look_call f_look_call d_look_call) (ok_look_call : FnG P w K mg base CX0 4 f_look_call d_look_call P_look_call (spD none F_look_call)) (okx_look_call : FnG P w K mg base (L2.CX P w) 4 f_look_call d_look_call P_look_call (spX cl G_look_call)) (XB : Xb P w K mg base cl) (B : Gb mg) : FnG P w K mg base (L2.CX P w) 5 f_look_word d_look_word P_look_word (spX cl G_look_word) := okDX A_look_word.fn sc_look_word fun cdv A outer s H E hr po => by
  have nd := sc_look_word.nd
  have hu64 := hr.units
  have hu65 := room65 hr
  exact (dssx_here (dsx_for po rfl (di_seq (de_var 1)) (dg_name (i := 2) nd) (dss_one (ds_expr (de_call ok_look_call (hr.mono (by decide)) rfl A_look_call.mg A_look_call.fn.kp A_look_call.bd (da_cons (de_var 0) (da_cons (de_var 2) da_nil))))) (dssx_here (dsx_expr (dex_call okx_look_call (hr.mono (by decide)) rfl A_look_call.mg A_look_call.fn.kp A_look_call.bd (da_cons (de_var 0) (da_cons (de_var 2) da_nil)))))))
theorem sc_empty_sheet : FnScope N_empty_sheet P_empty_sheet (defScope s_empty_sheet) := ⟨rfl, rfl, rfl, by decide +kernel, rfl, by decide +kernel, by decide +kernel⟩
theorem ok_empty_sheet {f_empty_sheet : Addr} {d_empty_sheet : FuncData} (A_empty_sheet : At K mg "empty_sheet" s_empty_sheet P_empty_sheet f_empty_sheet d_empty_sheet) (B : Gb mg) : FnG P w K mg base CX0 1 f_empty_sheet d_empty_sheet P_empty_sheet (spD none F_empty_sheet) := okD A_empty_sheet.fn sc_empty_sheet fun cdv A outer s H E hr => by
  have nd := sc_empty_sheet.nd
  have hu64 := hr.units
  have hu65 := room65 hr
  exact (dss_one (ds_ret (de_callTy call_tuple_of opA_tuple rfl B.n_tuple (by decide +kernel) (da_cons (de_bin op_add' op2_add (de_lrg2 rfl rfl B.n_list rfl B.n_range (de_var 0) (de_bin op_mul' op2_mul de_int (de_var 0))) (de_lrg1 rfl rfl B.n_list rfl B.n_range (de_var 0))) da_nil))))
theorem sc_sheet_of : FnScope N_sheet_of P_sheet_of (defScope s_sheet_of) := ⟨rfl, rfl, rfl, by decide +kernel, rfl, by decide +kernel, by decide +kernel⟩
theorem ok_sheet_of {f_sheet_of : Addr} {d_sheet_of : FuncData} (A_sheet_of : At K mg "sheet_of" s_sheet_of P_sheet_of f_sheet_of d_sheet_of) {f_look_word : Addr} {d_look_word : FuncData} (A_look_word : At K mg "look_word" s_look_word P_look_word f_look_word d_look_word) {f_empty_sheet : Addr} {d_empty_sheet : FuncData} (A_empty_sheet : At K mg "empty_sheet" s_empty_sheet P_empty_sheet f_empty_sheet d_empty_sheet) {f_added : Addr} {d_added : FuncData} (A_added : At K mg "added" s_added P_added f_added d_added) (ok_look_word : FnG P w K mg base CX0 5 f_look_word d_look_word P_look_word (spD none F_look_word)) (ok_empty_sheet : FnG P w K mg base CX0 1 f_empty_sheet d_empty_sheet P_empty_sheet (spD none F_empty_sheet)) (ok_added : FnG P w K mg base CX0 2 f_added d_added P_added (spD none F_added)) (B : Gb mg) : FnG P w K mg base CX0 6 f_sheet_of d_sheet_of P_sheet_of (spD none F_sheet_of) := okD A_sheet_of.fn sc_sheet_of fun cdv A outer s H E hr => by
  have nd := sc_sheet_of.nd
  have hu64 := hr.units
  have hu65 := room65 hr
  exact (dss_cons (ds_expr (de_call ok_look_word (hr.mono (by decide)) rfl A_look_word.mg A_look_word.fn.kp A_look_word.bd (da_cons (de_var 0) (da_cons (de_var 1) da_nil))))
    (dss_cons (ds_set (i := 2) nd (de_call ok_empty_sheet (hr.mono (by decide)) rfl A_empty_sheet.mg A_empty_sheet.fn.kp A_empty_sheet.bd (da_cons (de_var 0) da_nil)))
    (dss_cons (ds_for PassesOwn.never rfl (di_seq (de_var 1)) (dg_name (i := 3) nd) (dss_one (ds_set (i := 2) nd (de_call ok_added (hr.mono (by decide)) rfl A_added.mg A_added.fn.kp A_added.bd (da_cons (de_var 2) (da_cons (de_var 3) da_nil))))))
    (dss_one (ds_ret (de_var 2))))))
theorem okx_sheet_of {f_sheet_of : Addr} {d_sheet_of : FuncData} (A_sheet_of : At K mg "sheet_of" s_sheet_of P_sheet_of f_sheet_of d_sheet_of) {f_look_word : Addr} {d_look_word : FuncData} (A_look_word : At K mg "look_word" s_look_word P_look_word f_look_word d_look_word) {f_empty_sheet : Addr} {d_empty_sheet : FuncData} (A_empty_sheet : At K mg "empty_sheet" s_empty_sheet P_empty_sheet f_empty_sheet d_empty_sheet) {f_added : Addr} {d_added : FuncData} (A_added : At K mg "added" s_added P_added f_added d_added) (ok_look_word : FnG P w K mg base CX0 5 f_look_word d_look_word P_look_word (spD none F_look_word)) (ok_empty_sheet : FnG P w K mg base CX0 1 f_empty_sheet d_empty_sheet P_empty_sheet (spD none F_empty_sheet)) (ok_added : FnG P w K mg base CX0 2 f_added d_added P_added (spD none F_added)) (okx_look_word : FnG P w K mg base (L2.CX P w) 5 f_look_word d_look_word P_look_word (spX cl G_look_word)) (XB : Xb P w K mg base cl) (B : Gb mg) : FnG P w K mg base (L2.CX P w) 6 f_sheet_of d_sheet_of P_sheet_of (spX cl G_sheet_of) := okDX A_sheet_of.fn sc_sheet_of fun cdv A outer s H E hr po => by
  have nd := sc_sheet_of.nd
  have hu64 := hr.units
  have hu65 := room65 hr
  exact (dssx_here (dsx_expr (dex_call okx_look_word (hr.mono (by decide)) rfl A_look_word.mg A_look_word.fn.kp A_look_word.bd (da_cons (de_var 0) (da_cons (de_var 1) da_nil)))))
theorem sc_law_sheet_of : FnScope N_law_sheet_of P_law_sheet_of (defScope s_law_sheet_of) := ⟨rfl, rfl, rfl, by decide +kernel, rfl, by decide +kernel, by decide +kernel⟩
theorem ok_law_sheet_of {f_law_sheet_of : Addr} {d_law_sheet_of : FuncData} (A_law_sheet_of : At K mg "_law_sheet_of" s_law_sheet_of P_law_sheet_of f_law_sheet_of d_law_sheet_of) (B : Gb mg) : FnG P w K mg base CX0 1 f_law_sheet_of d_law_sheet_of P_law_sheet_of (spD none F_law_sheet_of) := okD A_law_sheet_of.fn sc_law_sheet_of fun cdv A outer s H E hr => by
  have nd := sc_law_sheet_of.nd
  have hu64 := hr.units
  have hu65 := room65 hr
  exact (dss_cons (ds_setLc (i := 2) (own := [("_law_end", 7)]) rfl nd (di_rng1 rfl B.n_range (da_cons (de_bin op_mul' op2_mul de_int (de_var 0)) da_nil)) (blkOk_by (N := N_law_sheet_of) (sc := defScope s_law_sheet_of) (by decide +kernel)) (fun _ _ _ _ _ => (dg_name (i := 7) nd)) (fun _ _ _ _ _ => dts_nil) (fun _ _ _ _ _ => (de_bin op_mod op2_mod (de_bin op_add' op2_add (de_var 7) (de_var 0)) (de_bin op_mul' op2_mul de_int (de_var 0)))) (sw_true rfl rfl rfl (by decide +kernel)))
    (dss_cons (ds_for PassesOwn.never rfl (di_seq (de_var 1)) (dg_tup (n := 2) rfl (dgs_cons (dg_name (i := 3) nd) (dgs_cons (dg_name (i := 4) nd) dgs_nil))) (dss_cons (ds_par (i := 5) (j := 6) rfl nd (da_cons (de_ix ix_seq op2_ix (de_var 2) (de_bin op_add' op2_add (de_var 0) (de_var 3))) (da_cons (de_ix ix_seq op2_ix (de_var 2) (de_bin op_add' op2_add (de_var 0) (de_var 4))) da_nil)))
    (dss_one (ds_if (dt_cmp (op_neA hu64) op2_ne (de_var 5) (de_bin op_add' op2_add (de_var 0) (de_var 4)) (nomark _)) (dss_cons (ds_asg (de_tup (da_cons (de_var 6) (da_cons (de_var 5) da_nil))) (dg_tup (n := 2) rfl (dgs_cons (dg_sub (j := 2) (de_var 5)) (dgs_cons (dg_sub (j := 2) (de_var 6)) dgs_nil))))
    (dss_one (ds_asg (de_tup (da_cons (de_bin op_add' op2_add (de_var 0) (de_var 4)) (da_cons (de_bin op_add' op2_add (de_var 0) (de_var 3)) da_nil))) (dg_tup (n := 2) rfl (dgs_cons (dg_sub (j := 2) (de_bin op_add' op2_add (de_var 0) (de_var 3))) (dgs_cons (dg_sub (j := 2) (de_bin op_add' op2_add (de_var 0) (de_var 4))) dgs_nil)))))) dss_nil))))
    (dss_one (ds_ret (de_callTy call_tuple_of opA_tuple rfl B.n_tuple (by decide +kernel) (da_cons (de_var 2) da_nil))))))
theorem sc_pairings_along : FnScope N_pairings_along P_pairings_along (defScope s_pairings_along) := ⟨rfl, rfl, rfl, by decide +kernel, rfl, by decide +kernel, by decide +kernel⟩
theorem ok_pairings_along {f_pairings_along : Addr} {d_pairings_along : FuncData} (A_pairings_along : At K mg "pairings_along" s_pairings_along P_pairings_along f_pairings_along d_pairings_along) {f_look_word : Addr} {d_look_word : FuncData} (A_look_word : At K mg "look_word" s_look_word P_look_word f_look_word d_look_word) {f_after_call : Addr} {d_after_call : FuncData} (A_after_call : At K mg "after_call" s_after_call P_after_call f_after_call d_after_call) (ok_look_word : FnG P w K mg base CX0 5 f_look_word d_look_word P_look_word (spD none F_look_word)) (ok_after_call : FnG P w K mg base CX0 1 f_after_call d_after_call P_after_call (spD none F_after_call)) (B : Gb mg) : FnG P w K mg base CX0 6 f_pairings_along d_pairings_along P_pairings_along (spD none F_pairings_along) := okD A_pairings_along.fn sc_pairings_along fun cdv A outer s H E hr => by
  have nd := sc_pairings_along.nd
  have hu64 := hr.units
  have hu65 := room65 hr
  exact (dss_cons (ds_expr (de_call ok_look_word (hr.mono (by decide)) rfl A_look_word.mg A_look_word.fn.kp A_look_word.bd (da_cons (de_callB call_len opA_len rfl B.n_len (by decide +kernel) (da_cons (de_var 0) da_nil)) (da_cons (de_var 1) da_nil))))
    (dss_cons (ds_set (i := 2) nd (de_lst (da_cons (de_callTy call_tuple_of opA_tuple rfl B.n_tuple (by decide +kernel) (da_cons (de_var 0) da_nil)) da_nil)))
    (dss_cons (ds_for PassesOwn.never rfl (di_seq (de_var 1)) (dg_name (i := 3) nd) (dss_one (ds_expr (de_meth 2 PySem.F.slot_list_append PySem.F.type_list_append mt_append opM_append (da_cons (de_call ok_after_call (hr.mono (by decide)) rfl A_after_call.mg A_after_call.fn.kp A_after_call.bd (da_cons (de_ix ix_seq op2_ix (de_var 2) (de_un un_neg op1_neg de_int)) (da_cons (de_var 3) da_nil))) da_nil)))))
    (dss_one (ds_ret (de_var 2))))))
theorem okx_pairings_along {f_pairings_along : Addr} {d_pairings_along : FuncData} (A_pairings_along : At K mg "pairings_along" s_pairings_along P_pairings_along f_pairings_along d_pairings_along) {f_look_word : Addr} {d_look_word : FuncData} (A_look_word : At K mg "look_word" s_look_word P_look_word f_look_word d_look_word) {f_after_call : Addr} {d_after_call : FuncData} (A_after_call : At K mg "after_call" s_after_call P_after_call f_after_call d_after_call) (ok_look_word : FnG P w K mg base CX0 5 f_look_word d_look_word P_look_word (spD none F_look_word)) (ok_after_call : FnG P w K mg base CX0 1 f_after_call d_after_call P_after_call (spD none F_after_call)) (okx_look_word : FnG P w K mg base (L2.CX P w) 5 f_look_word d_look_word P_look_word (spX cl G_look_word)) (XB : Xb P w K mg base cl) (B : Gb mg) : FnG P w K mg base (L2.CX P w) 6 f_pairings_along d_pairings_along P_pairings_along (spX cl G_pairings_along) := okDX A_pairings_along.fn sc_pairings_along fun cdv A outer s H E hr po => by
  have nd := sc_pairings_along.nd
  have hu64 := hr.units
  have hu65 := room65 hr
  exact (dssx_here (dsx_expr (dex_call okx_look_word (hr.mono (by decide)) rfl A_look_word.mg A_look_word.fn.kp A_look_word.bd (da_cons (de_callB call_len opA_len rfl B.n_len (by decide +kernel) (da_cons (de_var 0) da_nil)) (da_cons (de_var 1) da_nil)))))
theorem sc_called_all : FnScope N_called_all P_called_all (defScope s_called_all) := ⟨rfl, rfl, rfl, by decide +kernel, rfl, by decide +kernel, by decide +kernel⟩
theorem ok_called_all {f_called_all : Addr} {d_called_all : FuncData} (A_called_all : At K mg "called_all" s_called_all P_called_all f_called_all d_called_all) {f_pairings_along : Addr} {d_pairings_along : FuncData} (A_pairings_along : At K mg "pairings_along" s_pairings_along P_pairings_along f_pairings_along d_pairings_along) (ok_pairings_along : FnG P w K mg base CX0 6 f_pairings_along d_pairings_along P_pairings_along (spD none F_pairings_along)) (B : Gb mg) : FnG P w K mg base CX0 7 f_called_all d_called_all P_called_all (spD none F_called_all) := okD A_called_all.fn sc_called_all fun cdv A outer s H E hr => by
  have nd := sc_called_all.nd
  have hu64 := hr.units
  have hu65 := room65 hr
  exact (dss_one (ds_ret (de_ix ix_seq op2_ix (de_call ok_pairings_along (hr.mono (by decide)) rfl A_pairings_along.mg A_pairings_along.fn.kp A_pairings_along.bd (da_cons (de_var 0) (da_cons (de_var 1) da_nil))) (de_un un_neg op1_neg de_int))))
theorem okx_called_all {f_called_all : Addr} {d_called_all : FuncData} (A_called_all : At K mg "called_all" s_called_all P_called_all f_called_all d_called_all) {f_pairings_along : Addr} {d_pairings_along : FuncData} (A_pairings_along : At K mg "pairings_along" s_pairings_along P_pairings_along f_pairings_along d_pairings_along) (ok_pairings_along : FnG P w K mg base CX0 6 f_pairings_along d_pairings_along P_pairings_along (spD none F_pairings_along)) (okx_pairings_along : FnG P w K mg base (L2.CX P w) 6 f_pairings_along d_pairings_along P_pairings_along (spX cl G_pairings_along)) (XB : Xb P w K mg base cl) (B : Gb mg) : FnG P w K mg base (L2.CX P w) 7 f_called_all d_called_all P_called_all (spX cl G_called_all) := okDX A_called_all.fn sc_called_all fun cdv A outer s H E hr po => by
  have nd := sc_called_all.nd
  have hu64 := hr.units
  have hu65 := room65 hr
  exact (dssx_here (dsx_ret (dex_ix (dex_call okx_pairings_along (hr.mono (by decide)) rfl A_pairings_along.mg A_pairings_along.fn.kp A_pairings_along.bd (da_cons (de_var 0) (da_cons (de_var 1) da_nil))))))
theorem sc_idle_calls : FnScope N_idle_calls P_idle_calls (defScope s_idle_calls) := ⟨rfl, rfl, rfl, by decide +kernel, rfl, by decide +kernel, by decide +kernel⟩
theorem ok_idle_calls {f_idle_calls : Addr} {d_idle_calls : FuncData} (A_idle_calls : At K mg "idle_calls" s_idle_calls P_idle_calls f_idle_calls d_idle_calls) {f_pairings_along : Addr} {d_pairings_along : FuncData} (A_pairings_along : At K mg "pairings_along" s_pairings_along P_pairings_along f_pairings_along d_pairings_along) (ok_pairings_along : FnG P w K mg base CX0 6 f_pairings_along d_pairings_along P_pairings_along (spD none F_pairings_along)) (B : Gb mg) : FnG P w K mg base CX0 7 f_idle_calls d_idle_calls P_idle_calls (spD none F_idle_calls) := okD A_idle_calls.fn sc_idle_calls fun cdv A outer s H E hr => by
  have nd := sc_idle_calls.nd
  have hu64 := hr.units
  have hu65 := room65 hr
  exact (dss_cons (ds_set (i := 2) nd (de_call ok_pairings_along (hr.mono (by decide)) rfl A_pairings_along.mg A_pairings_along.fn.kp A_pairings_along.bd (da_cons (de_var 0) (da_cons (de_var 1) da_nil))))
    (dss_one (ds_ret (de_lc (own := [("index", 3), ("before", 4), ("after", 5)]) rfl nd (di_ez rfl B.n_enumerate rfl B.n_zip (da_cons (de_var 2) (da_cons (de_slice (de_var 2) (do_some de_int) do_none) da_nil))) (blkOk_by (N := N_idle_calls) (sc := defScope s_idle_calls) (by decide +kernel)) (fun _ _ _ _ _ => (dg_tup (n := 2) rfl (dgs_cons (dg_name (i := 3) nd) (dgs_cons (dg_tup (n := 2) rfl (dgs_cons (dg_name (i := 4) nd) (dgs_cons (dg_name (i := 5) nd) dgs_nil))) dgs_nil)))) (fun _ _ _ _ _ => (dts_one (dt_cmp (op_eqA hu64) op2_eq (de_var 4) (de_var 5) (nomark _)))) (fun _ _ _ _ _ => (de_var 3))))))
theorem okx_idle_calls {f_idle_calls : Addr} {d_idle_calls : FuncData} (A_idle_calls : At K mg "idle_calls" s_idle_calls P_idle_calls f_idle_calls d_idle_calls) {f_pairings_along : Addr} {d_pairings_along : FuncData} (A_pairings_along : At K mg "pairings_along" s_pairings_along P_pairings_along f_pairings_along d_pairings_along) (ok_pairings_along : FnG P w K mg base CX0 6 f_pairings_along d_pairings_along P_pairings_along (spD none F_pairings_along)) (okx_pairings_along : FnG P w K mg base (L2.CX P w) 6 f_pairings_along d_pairings_along P_pairings_along (spX cl G_pairings_along)) (XB : Xb P w K mg base cl) (B : Gb mg) : FnG P w K mg base (L2.CX P w) 7 f_idle_calls d_idle_calls P_idle_calls (spX cl G_idle_calls) := okDX A_idle_calls.fn sc_idle_calls fun cdv A outer s H E hr po => by
  have nd := sc_idle_calls.nd
  have hu64 := hr.units
  have hu65 := room65 hr
  exact (dssx_here (dsx_set (i := 2) nd (dex_call okx_pairings_along (hr.mono (by decide)) rfl A_pairings_along.mg A_pairings_along.fn.kp A_pairings_along.bd (da_cons (de_var 0) (da_cons (de_var 1) da_nil)))))
theorem sc_law_asked : FnScope N_law_asked P_law_asked (defScope s_law_asked) := ⟨rfl, rfl, rfl, by decide +kernel, rfl, by decide +kernel, by decide +kernel⟩
theorem ok_law_asked {f_law_asked : Addr} {d_law_asked : FuncData} (A_law_asked : At K mg "_law_asked" s_law_asked P_law_asked f_law_asked d_law_asked) {f_called : Addr} {d_called : FuncData} (A_called : At K mg "called" s_called P_called f_called d_called) {f_with_call : Addr} {d_with_call : FuncData} (A_with_call : At K mg "with_call" s_with_call P_with_call f_with_call d_with_call) {f_sheet_of : Addr} {d_sheet_of : FuncData} (A_sheet_of : At K mg "sheet_of" s_sheet_of P_sheet_of f_sheet_of d_sheet_of) {f_law_sheet_of : Addr} {d_law_sheet_of : FuncData} (A_law_sheet_of : At K mg "_law_sheet_of" s_law_sheet_of P_law_sheet_of f_law_sheet_of d_law_sheet_of) {f_called_all : Addr} {d_called_all : FuncData} (A_called_all : At K mg "called_all" s_called_all P_called_all f_called_all d_called_all) {f_pairings_along : Addr} {d_pairings_along : FuncData} (A_pairings_along : At K mg "pairings_along" s_pairings_along P_pairings_along f_pairings_along d_pairings_along) {f_idle_calls : Addr} {d_idle_calls : FuncData} (A_idle_calls : At K mg "idle_calls" s_idle_calls P_idle_calls f_idle_calls d_idle_calls) (ok_called : FnG P w K mg base CX0 5 f_called d_called P_called (spD none F_called)) (ok_with_call : FnG P w K mg base CX0 5 f_with_call d_with_call P_with_call (spD none F_with_call)) (ok_sheet_of : FnG P w K mg base CX0 6 f_sheet_of d_sheet_of P_sheet_of (spD none F_sheet_of)) (ok_law_sheet_of : FnG P w K mg base CX0 1 f_law_sheet_of d_law_sheet_of P_law_sheet_of (spD none F_law_sheet_of)) (ok_called_all : FnG P w K mg base CX0 7 f_called_all d_called_all P_called_all (spD none F_called_all)) (ok_pairings_along : FnG P w K mg base CX0 6 f_pairings_along d_pairings_along P_pairings_along (spD none F_pairings_along)) (ok_idle_calls : FnG P w K mg base CX0 7 f_idle_calls d_idle_calls P_idle_calls (spD none F_idle_calls)) (B : Gb mg) : FnG P w K mg base CX0 8 f_law_asked d_law_asked P_law_asked (spD none F_law_asked) := okD A_law_asked.fn sc_law_asked fun cdv A outer s H E hr => by
  have nd := sc_law_asked.nd
  have hu64 := hr.units
  have hu65 := room65 hr
  exact (dss_cons (ds_if (dt_cmp (op_eqA hu64) op2_eq (de_var 0) de_int (nomark _)) (dss_one (ds_ret (de_call ok_called (hr.mono (by decide)) rfl A_called.mg A_called.fn.kp A_called.bd (da_cons (de_var 1) (da_cons (de_ix ix_seq op2_ix (de_var 2) de_int) da_nil))))) dss_nil)
    (dss_cons (ds_if (dt_cmp op_lt op2_Ib (de_var 0) de_int (nomark _)) (dss_one (ds_ret (de_callIx (.cons (pe_glob rfl A_called_all.mg rfl) ok_called_all (hr.mono (by decide)) A_called_all.fn.kp A_called_all.bd (.cons (pe_glob rfl A_pairings_along.mg rfl) ok_pairings_along (hr.mono (by decide)) A_pairings_along.fn.kp A_pairings_along.bd (.cons (pe_glob rfl A_idle_calls.mg rfl) ok_idle_calls (hr.mono (by decide)) A_idle_calls.fn.kp A_idle_calls.bd .nil))) (de_bin op_sub op2_I (de_var 0) de_int) (da_cons (de_var 1) (da_cons (de_var 2) da_nil))))) dss_nil)
    (dss_one (ds_ret (de_if (dt_cmp (op_eqA hu64) op2_eq (de_var 0) de_int (nomark _)) (de_call ok_with_call (hr.mono (by decide)) rfl A_with_call.mg A_with_call.fn.kp A_with_call.bd (da_cons (de_call ok_law_sheet_of (hr.mono (by decide)) rfl A_law_sheet_of.mg A_law_sheet_of.fn.kp A_law_sheet_of.bd (da_cons (de_callB call_len opA_len rfl B.n_len (by decide +kernel) (da_cons (de_var 1) da_nil)) (da_cons (de_lst da_nil) da_nil))) (da_cons (de_ix ix_seq op2_ix (de_var 2) de_int) da_nil))) (de_call ok_sheet_of (hr.mono (by decide)) rfl A_sheet_of.mg A_sheet_of.fn.kp A_sheet_of.bd (da_cons (de_callB call_len opA_len rfl B.n_len (by decide +kernel) (da_cons (de_var 1) da_nil)) (da_cons (de_var 2) da_nil))))))))
theorem okx_law_asked {f_law_asked : Addr} {d_law_asked : FuncData} (A_law_asked : At K mg "_law_asked" s_law_asked P_law_asked f_law_asked d_law_asked) {f_called : Addr} {d_called : FuncData} (A_called : At K mg "called" s_called P_called f_called d_called) {f_with_call : Addr} {d_with_call : FuncData} (A_with_call : At K mg "with_call" s_with_call P_with_call f_with_call d_with_call) {f_sheet_of : Addr} {d_sheet_of : FuncData} (A_sheet_of : At K mg "sheet_of" s_sheet_of P_sheet_of f_sheet_of d_sheet_of) {f_law_sheet_of : Addr} {d_law_sheet_of : FuncData} (A_law_sheet_of : At K mg "_law_sheet_of" s_law_sheet_of P_law_sheet_of f_law_sheet_of d_law_sheet_of) {f_called_all : Addr} {d_called_all : FuncData} (A_called_all : At K mg "called_all" s_called_all P_called_all f_called_all d_called_all) {f_pairings_along : Addr} {d_pairings_along : FuncData} (A_pairings_along : At K mg "pairings_along" s_pairings_along P_pairings_along f_pairings_along d_pairings_along) {f_idle_calls : Addr} {d_idle_calls : FuncData} (A_idle_calls : At K mg "idle_calls" s_idle_calls P_idle_calls f_idle_calls d_idle_calls) (ok_called : FnG P w K mg base CX0 5 f_called d_called P_called (spD none F_called)) (ok_with_call : FnG P w K mg base CX0 5 f_with_call d_with_call P_with_call (spD none F_with_call)) (ok_sheet_of : FnG P w K mg base CX0 6 f_sheet_of d_sheet_of P_sheet_of (spD none F_sheet_of)) (ok_law_sheet_of : FnG P w K mg base CX0 1 f_law_sheet_of d_law_sheet_of P_law_sheet_of (spD none F_law_sheet_of)) (ok_called_all : FnG P w K mg base CX0 7 f_called_all d_called_all P_called_all (spD none F_called_all)) (ok_pairings_along : FnG P w K mg base CX0 6 f_pairings_along d_pairings_along P_pairings_along (spD none F_pairings_along)) (ok_idle_calls : FnG P w K mg base CX0 7 f_idle_calls d_idle_calls P_idle_calls (spD none F_idle_calls)) (okx_called : FnG P w K mg base (L2.CX P w) 5 f_called d_called P_called (spX cl G_called)) (okx_idle_calls : FnG P w K mg base (L2.CX P w) 7 f_idle_calls d_idle_calls P_idle_calls (spX cl G_idle_calls)) (okx_pairings_along : FnG P w K mg base (L2.CX P w) 6 f_pairings_along d_pairings_along P_pairings_along (spX cl G_pairings_along)) (okx_called_all : FnG P w K mg base (L2.CX P w) 7 f_called_all d_called_all P_called_all (spX cl G_called_all)) (okx_with_call : FnG P w K mg base (L2.CX P w) 5 f_with_call d_with_call P_with_call (spX cl G_with_call)) (okx_sheet_of : FnG P w K mg base (L2.CX P w) 6 f_sheet_of d_sheet_of P_sheet_of (spX cl G_sheet_of)) (XB : Xb P w K mg base cl) (B : Gb mg) : FnG P w K mg base (L2.CX P w) 8 f_law_asked d_law_asked P_law_asked (spX cl G_law_asked) := okDX A_law_asked.fn sc_law_asked fun cdv A outer s H E hr po => by
  have nd := sc_law_asked.nd
  have hu64 := hr.units
  have hu65 := room65 hr
  exact (dssx_or (dssx_here (dsx_if (dt_cmp (op_eqA hu64) op2_eq (de_var 0) de_int (nomark _)) (dssx_here (dsx_ret (dex_call okx_called (hr.mono (by decide)) rfl A_called.mg A_called.fn.kp A_called.bd (da_cons (de_var 1) (da_cons (de_ix ix_seq op2_ix (de_var 2) de_int) da_nil))))) dssx_no))
    (dssx_next (ds_if (dt_cmp (op_eqA hu64) op2_eq (de_var 0) de_int (nomark _)) (dss_one (ds_ret (de_call ok_called (hr.mono (by decide)) rfl A_called.mg A_called.fn.kp A_called.bd (da_cons (de_var 1) (da_cons (de_ix ix_seq op2_ix (de_var 2) de_int) da_nil))))) dss_nil)
    (dssx_or (dssx_here (dsx_if (dt_cmp op_lt op2_Ib (de_var 0) de_int (nomark _)) (dssx_here (dsx_ret (dex_callIx (cl := cl) (.cons (pe_glob rfl A_called_all.mg rfl) okx_called_all (hr.mono (by decide)) A_called_all.fn.kp A_called_all.bd (.cons (pe_glob rfl A_pairings_along.mg rfl) okx_pairings_along (hr.mono (by decide)) A_pairings_along.fn.kp A_pairings_along.bd (.cons (pe_glob rfl A_idle_calls.mg rfl) okx_idle_calls (hr.mono (by decide)) A_idle_calls.fn.kp A_idle_calls.bd .nil))) (de_bin op_sub op2_I (de_var 0) de_int) (da_cons (de_var 1) (da_cons (de_var 2) da_nil))))) dssx_no))
    (dssx_next (ds_if (dt_cmp op_lt op2_Ib (de_var 0) de_int (nomark _)) (dss_one (ds_ret (de_callIx (.cons (pe_glob rfl A_called_all.mg rfl) ok_called_all (hr.mono (by decide)) A_called_all.fn.kp A_called_all.bd (.cons (pe_glob rfl A_pairings_along.mg rfl) ok_pairings_along (hr.mono (by decide)) A_pairings_along.fn.kp A_pairings_along.bd (.cons (pe_glob rfl A_idle_calls.mg rfl) ok_idle_calls (hr.mono (by decide)) A_idle_calls.fn.kp A_idle_calls.bd .nil))) (de_bin op_sub op2_I (de_var 0) de_int) (da_cons (de_var 1) (da_cons (de_var 2) da_nil))))) dss_nil)
    (dssx_here (dsx_ret (dex_if (dt_cmp (op_eqA hu64) op2_eq (de_var 0) de_int (nomark _)) (dex_call okx_with_call (hr.mono (by decide)) rfl A_with_call.mg A_with_call.fn.kp A_with_call.bd (da_cons (de_call ok_law_sheet_of (hr.mono (by decide)) rfl A_law_sheet_of.mg A_law_sheet_of.fn.kp A_law_sheet_of.bd (da_cons (de_callB call_len opA_len rfl B.n_len (by decide +kernel) (da_cons (de_var 1) da_nil)) (da_cons (de_lst da_nil) da_nil))) (da_cons (de_ix ix_seq op2_ix (de_var 2) de_int) da_nil))) (dex_call okx_sheet_of (hr.mono (by decide)) rfl A_sheet_of.mg A_sheet_of.fn.kp A_sheet_of.bd (da_cons (de_callB call_len opA_len rfl B.n_len (by decide +kernel) (da_cons (de_var 1) da_nil)) (da_cons (de_var 2) da_nil))))))))))
theorem sc_law_refused : FnScope N_law_refused P_law_refused (defScope s_law_refused) := ⟨rfl, rfl, rfl, by decide +kernel, rfl, by decide +kernel, by decide +kernel⟩
theorem ok_law_refused {f_law_refused : Addr} {d_law_refused : FuncData} (A_law_refused : At K mg "_law_refused" s_law_refused P_law_refused f_law_refused d_law_refused) {f_law_asked : Addr} {d_law_asked : FuncData} (A_law_asked : At K mg "_law_asked" s_law_asked P_law_asked f_law_asked d_law_asked) (ok_law_asked : FnG P w K mg base CX0 8 f_law_asked d_law_asked P_law_asked (spD none F_law_asked)) (okx_law_asked : FnG P w K mg base (L2.CX P w) 8 f_law_asked d_law_asked P_law_asked (spX cl G_law_asked)) (XB : Xb P w K mg base cl) (B : Gb mg) : FnG P w K mg base CX0 9 f_law_refused d_law_refused P_law_refused (spD none (F_law_refused cl)) := okD A_law_refused.fn sc_law_refused fun cdv A outer s H E hr => by
  have nd := sc_law_refused.nd
  have hu64 := hr.units
  have hu65 := room65 hr
  exact (dss_cons (ds_set (i := 3) nd de_non)
    (dss_cons (ds_try (cl := cl) (nms := ["NoPerson"]) (Cs := [cl "NoPerson", cl "NoNumber", cl "NotShortest", cl "OtherSize"]) (i := 4) (j := 3) rfl rfl rfl nd (fun _ _ => (dss_one (ds_expr (de_call ok_law_asked (hr.mono (by decide)) rfl A_law_asked.mg A_law_asked.fn.kp A_law_asked.bd (da_cons (de_var 0) (da_cons (de_var 1) (da_cons (de_var 2) da_nil))))))) (fun _ _ po => (dssx_here (dsx_expr (dex_call okx_law_asked (hr.mono (by decide)) rfl A_law_asked.mg A_law_asked.fn.kp A_law_asked.bd (da_cons (de_var 0) (da_cons (de_var 1) (da_cons (de_var 2) da_nil))))))) (fun _ _ => (.cons (pe_glob rfl XB.m_NoPerson rfl) (.cons (pe_glob rfl XB.m_NoNumber rfl) (.cons (pe_glob rfl XB.m_NotShortest rfl) (.cons (pe_glob rfl XB.m_OtherSize rfl) .nil))))) (all_cons XB.fx_0 all_nil))
    (dss_cons (ds_if (dt_cmp op_isA op2_is (de_var 3) de_non (nomark _)) (dss_one (ds_ret de_non)) dss_nil)
    (dss_cons (ds_set (i := 5) nd (de_and (de_isx (cl := cl) (c := (V.ref (cl "NoPerson"))) (u := (Value.ref (cl "NoPerson"))) rfl B.n_isinstance (de_var 3) (pe_glob rfl XB.m_NoPerson rfl) (.own _) XB.fx_1 (all_cons ⟨XB.k_NoPerson.cx.ex, XB.fx_2⟩ all_nil) all_nil) (de_one (de_isx (cl := cl) (c := (V.ty "LookupError")) (u := (Value.type "LookupError")) rfl B.n_isinstance (de_var 3) (pe_bltn (v := .ty "LookupError") rfl B.n_LookupError (by decide +kernel) rfl) (.ty _) XB.fx_3 (all_cons ⟨XB.k_NoPerson.cx.ex, XB.fx_4⟩ all_nil) all_nil))))
    (dss_cons (ds_if (DW.dt (dw_or (dt_not (dt_val (de_var 5))) (dw_or1 (dt_val (de_isxT (cl := cl) (cvs := [(V.ty "IndexError"), (V.ty "KeyError"), (V.ref (cl "NoNumber")), (V.ty "ValueError")]) (us := [(Value.type "IndexError"), (Value.type "KeyError"), (Value.ref (cl "NoNumber")), (Value.type "ValueError")]) rfl B.n_isinstance (de_var 3) (.cons (pe_bltn (v := .ty "IndexError") rfl B.n_IndexError (by decide +kernel) rfl) (.cons (pe_bltn (v := .ty "KeyError") rfl B.n_KeyError (by decide +kernel) rfl) (.cons (pe_glob rfl XB.m_NoNumber rfl) (.cons (pe_bltn (v := .ty "ValueError") rfl B.n_ValueError (by decide +kernel) rfl) .nil)))) (.cons (.ty _) (.cons (.ty _) (.cons (.own _) (.cons (.ty _) .nil)))) XB.fx_5 all_nil (all_cons ⟨XB.k_NoPerson.cx.ex, XB.fx_6⟩ all_nil)))))) (dss_one (ds_ret (by exact de_str))) dss_nil)
    (dss_one (ds_ret (de_atx (cl := cl) (de_var 3) (all_cons ⟨XB.k_NoPerson.cx.xf, XB.k_NoPerson.no⟩ all_nil)))))))))
theorem sc_law_same : FnScope N_law_same P_law_same (defScope s_law_same) := ⟨rfl, rfl, rfl, by decide +kernel, rfl, by decide +kernel, by decide +kernel⟩
theorem ok_law_same {f_law_same : Addr} {d_law_same : FuncData} (A_law_same : At K mg "_law_same" s_law_same P_law_same f_law_same d_law_same) (B : Gb mg) : ∀ m : Nat, FnG P w K mg base CX0 (1 + m) f_law_same d_law_same P_law_same (spD none (F_law_same m))
  | 0 => fn_none
  | m + 1 => okD (lv := 1 + m) A_law_same.fn sc_law_same fun cdv A outer s H E hr => by
    have ih := ok_law_same A_law_same B m
    have nd := sc_law_same.nd
    have hu64 := hr.units
    have hu65 := room65 hr
    exact (dss_cons (ds_if (dt_val (de_isi2 rfl B.n_isinstance (de_var 1) rfl B.n_list (by decide +kernel) (ts := "list") (by decide) rfl B.n_tuple (by decide +kernel) (us := "tuple") (by decide))) (dss_cons (ds_if (DW.dt (dw_or (dt_cmp (op_neA hu64) op2_ne (de_isi rfl B.n_isinstance (de_var 0) rfl B.n_list (by decide +kernel) (ts := "list") (by decide)) (de_isi rfl B.n_isinstance (de_var 1) rfl B.n_list (by decide +kernel) (ts := "list") (by decide)) (nomark _)) (dw_or1 (dt_cmp (op_neA hu64) op2_ne (de_isi rfl B.n_isinstance (de_var 0) rfl B.n_tuple (by decide +kernel) (ts := "tuple") (by decide)) (de_isi rfl B.n_isinstance (de_var 1) rfl B.n_tuple (by decide +kernel) (ts := "tuple") (by decide)) (nomark _))))) (dss_one (ds_ret de_bl)) dss_nil)
        (dss_one (ds_ret (de_and (de_cmp (op_eqA hu64) op2_eq (de_callB call_len opA_len rfl B.n_len (by decide +kernel) (da_cons (de_var 0) da_nil)) (de_callB call_len opA_len rfl B.n_len (by decide +kernel) (da_cons (de_var 1) da_nil)) (nomark _)) (de_one (de_callB (cr_all rfl) opA_all rfl B.n_all (by decide +kernel) (da_cons (de_lc (own := [("_law_mine", 2), ("_law_its", 3)]) rfl nd (di_zip rfl B.n_zip (da_cons (de_var 0) (da_cons (de_var 1) da_nil))) (blkOk_by (N := N_law_same) (sc := defScope s_law_same) (by decide +kernel)) (fun _ _ _ _ _ => (dg_tup (n := 2) rfl (dgs_cons (dg_name (i := 2) nd) (dgs_cons (dg_name (i := 3) nd) dgs_nil)))) (fun _ _ _ _ _ => dts_nil) (fun _ _ _ _ _ => (de_call ih (hr.mono (by omega)) rfl A_law_same.mg A_law_same.fn.kp A_law_same.bd (da_cons (de_var 2) (da_cons (de_var 3) da_nil))))) da_nil))))))) dss_nil)
        (dss_cons (ds_if (DW.dt (dw_or (dt_cmp op_isA op2_is (de_var 1) de_non (nomark _)) (dw_or1 (dt_val (de_isi2 rfl B.n_isinstance (de_var 1) rfl B.n_str (by decide +kernel) (ts := "str") (by decide) rfl B.n_bool (by decide +kernel) (us := "bool") (by decide)))))) (dss_one (ds_ret (de_and (de_cmp (op_eqA hu64) op2_eq (de_var 0) (de_var 1) (nomark _)) (de_and (de_cmp (op_eqA hu64) op2_eq (de_isi rfl B.n_isinstance (de_var 0) rfl B.n_bool (by decide +kernel) (ts := "bool") (by decide)) (de_isi rfl B.n_isinstance (de_var 1) rfl B.n_bool (by decide +kernel) (ts := "bool") (by decide)) (nomark _)) (de_one (de_cmp (op_eqA hu64) op2_eq (de_cmp op_isA op2_is (de_var 0) de_non (nomark _)) (de_cmp op_isA op2_is (de_var 1) de_non (nomark _)) (nomark _))))))) dss_nil)
        (dss_one (ds_ret (de_and (de_isi rfl B.n_isinstance (de_var 0) rfl B.n_int (by decide +kernel) (ts := "int") (by decide)) (de_and (de_not (de_isi rfl B.n_isinstance (de_var 0) rfl B.n_bool (by decide +kernel) (ts := "bool") (by decide))) (de_one (de_cmp (op_eqA hu64) op2_eq (de_var 0) (de_var 1) (nomark _)))))))))
theorem sc_law_right : FnScope N_law_right P_law_right (defScope s_law_right) := ⟨rfl, rfl, rfl, by decide +kernel, rfl, by decide +kernel, by decide +kernel⟩
theorem ok_law_right {f_law_right : Addr} {d_law_right : FuncData} (A_law_right : At K mg "_law_right" s_law_right P_law_right f_law_right d_law_right) {f_law_random : Addr} {d_law_random : FuncData} (A_law_random : At K mg "_law_random" s_law_random P_law_random f_law_random d_law_random) {f_law_wrong_call : Addr} {d_law_wrong_call : FuncData} (A_law_wrong_call : At K mg "_law_wrong_call" s_law_wrong_call P_law_wrong_call f_law_wrong_call d_law_wrong_call) {f_law_take : Addr} {d_law_take : FuncData} (A_law_take : At K mg "_law_take" s_law_take P_law_take f_law_take d_law_take) {f_law_some_calls : Addr} {d_law_some_calls : FuncData} (A_law_some_calls : At K mg "_law_some_calls" s_law_some_calls P_law_some_calls f_law_some_calls d_law_some_calls) {f_law_refused : Addr} {d_law_refused : FuncData} (A_law_refused : At K mg "_law_refused" s_law_refused P_law_refused f_law_refused d_law_refused) {f_law_same : Addr} {d_law_same : FuncData} (A_law_same : At K mg "_law_same" s_law_same P_law_same f_law_same d_law_same) {f_law_any_call : Addr} {d_law_any_call : FuncData} (A_law_any_call : At K mg "_law_any_call" s_law_any_call P_law_any_call f_law_any_call d_law_any_call) (ok_law_random : FnG P w K mg base CX0 6 f_law_random d_law_random P_law_random (spD (some 0) F_law_random)) (ok_law_wrong_call : FnG P w K mg base CX0 6 f_law_wrong_call d_law_wrong_call P_law_wrong_call (spD (some 0) F_law_wrong_call)) (ok_law_take : FnG P w K mg base CX0 4 f_law_take d_law_take P_law_take (spD (some 0) (F_law_take 3))) (ok_law_some_calls : FnG P w K mg base CX0 6 f_law_some_calls d_law_some_calls P_law_some_calls (spD (some 0) F_law_some_calls)) (ok_law_refused : FnG P w K mg base CX0 9 f_law_refused d_law_refused P_law_refused (spD none (F_law_refused cl))) (ok_law_same : FnG P w K mg base CX0 6 f_law_same d_law_same P_law_same (spD none (F_law_same 5))) (ok_law_any_call : FnG P w K mg base CX0 5 f_law_any_call d_law_any_call P_law_any_call (spD (some 0) F_law_any_call)) (XB : Xb P w K mg base cl) (B : Gb mg) : FnG P w K mg base CX0 10 f_law_right d_law_right P_law_right (spD (some 0) (F_law_right cl)) := okD A_law_right.fn sc_law_right fun cdv A outer s H E hr => by
  have nd := sc_law_right.nd
  have hu64 := hr.units
  have hu65 := room65 hr
  exact (dss_cons (ds_set (i := 1) nd (de_bin op_add' op2_add de_int (de_bin op_mul' op2_mul de_int (de_call ok_law_take (hr.mono (by decide)) rfl A_law_take.mg A_law_take.fn.kp A_law_take.bd (da_cons (de_var 0) (da_cons de_int da_nil))))))
    (dss_cons (ds_set (i := 2) nd (de_call ok_law_random (hr.mono (by decide)) rfl A_law_random.mg A_law_random.fn.kp A_law_random.bd (da_cons (de_var 0) (da_cons (de_var 1) da_nil))))
    (dss_cons (ds_for PassesOwn.never rfl (di_rng1 rfl B.n_range (da_cons de_int da_nil)) (dg_name (i := 3) nd) (dss_cons (ds_asg (de_call ok_law_wrong_call (hr.mono (by decide)) rfl A_law_wrong_call.mg A_law_wrong_call.fn.kp A_law_wrong_call.bd (da_cons (de_var 0) (da_cons (de_var 1) da_nil))) (dg_tup (n := 2) rfl (dgs_cons (dg_name (i := 4) nd) (dgs_cons (dg_name (i := 5) nd) dgs_nil))))
    (dss_cons (ds_set (i := 6) nd (de_slice (de_lst (da_cons (de_call ok_law_any_call (hr.mono (by decide)) rfl A_law_any_call.mg A_law_any_call.fn.kp A_law_any_call.bd (da_cons (de_var 0) (da_cons (de_var 1) da_nil))) (da_cons (de_ix ix_seq op2_ix (de_call ok_law_wrong_call (hr.mono (by decide)) rfl A_law_wrong_call.mg A_law_wrong_call.fn.kp A_law_wrong_call.bd (da_cons (de_var 0) (da_cons (de_var 1) da_nil))) de_int) da_nil))) do_none (do_some (de_call ok_law_take (hr.mono (by decide)) rfl A_law_take.mg A_law_take.fn.kp A_law_take.bd (da_cons (de_var 0) (da_cons de_int da_nil))))))
    (dss_cons (ds_set (i := 7) nd (de_bin op_add' op2_add (de_call ok_law_some_calls (hr.mono (by decide)) rfl A_law_some_calls.mg A_law_some_calls.fn.kp A_law_some_calls.bd (da_cons (de_var 0) (da_cons (de_var 1) (da_cons de_int da_nil)))) (de_lst (da_cons (de_call ok_law_any_call (hr.mono (by decide)) rfl A_law_any_call.mg A_law_any_call.fn.kp A_law_any_call.bd (da_cons (de_var 0) (da_cons (de_var 1) da_nil))) da_nil))))
    (dss_cons (ds_setLc (i := 8) (own := [("_law_sort", 9)]) rfl nd (di_rng1 rfl B.n_range (da_cons de_int da_nil)) (blkOk_by (N := N_law_right) (sc := defScope s_law_right) (by decide +kernel)) (fun _ _ _ _ _ => (dg_name (i := 9) nd)) (fun _ _ _ _ _ => dts_nil) (fun _ _ _ _ _ => (de_call ok_law_refused (hr.mono (by decide)) rfl A_law_refused.mg A_law_refused.fn.kp A_law_refused.bd (da_cons (de_var 9) (da_cons (de_var 2) (da_cons (de_bin op_add' op2_add (de_lst (da_cons (de_var 4) da_nil)) (de_var 6)) da_nil))))) (sw_true rfl rfl rfl (by decide +kernel)))
    (dss_cons (ds_if (dt_not (dt_val (de_call ok_law_same (hr.mono (by decide)) rfl A_law_same.mg A_law_same.fn.kp A_law_same.bd (da_cons (de_var 8) (da_cons (de_rep (de_lst (da_cons (de_var 5) da_nil)) de_int) da_nil))))) (dss_one (ds_ret de_bl)) dss_nil)
    (dss_cons (ds_setLc (i := 8) (own := [("_law_sort", 9)]) rfl nd (di_seq (de_tup (da_cons de_int (da_cons de_int (da_cons de_int (da_cons de_int da_nil)))))) (blkOk_by (N := N_law_right) (sc := defScope s_law_right) (by decide +kernel)) (fun _ _ _ _ _ => (dg_name (i := 9) nd)) (fun _ _ _ _ _ => dts_nil) (fun _ _ _ _ _ => (de_call ok_law_refused (hr.mono (by decide)) rfl A_law_refused.mg A_law_refused.fn.kp A_law_refused.bd (da_cons (de_var 9) (da_cons (de_var 2) (da_cons (de_bin op_add' op2_add (de_bin op_add' op2_add (de_var 7) (de_lst (da_cons (de_var 4) da_nil))) (de_var 6)) da_nil))))) (sw_true rfl rfl rfl (by decide +kernel)))
    (dss_cons (ds_if (dt_not (dt_val (de_call ok_law_same (hr.mono (by decide)) rfl A_law_same.mg A_law_same.fn.kp A_law_same.bd (da_cons (de_var 8) (da_cons (de_rep (de_lst (da_cons (de_var 5) da_nil)) de_int) da_nil))))) (dss_one (ds_ret de_bl)) dss_nil)
    (dss_one (ds_if (dt_not (dt_val (de_call ok_law_same (hr.mono (by decide)) rfl A_law_same.mg A_law_same.fn.kp A_law_same.bd (da_cons (de_lc (own := [("_law_sort", 9)]) rfl nd (di_rng1 rfl B.n_range (da_cons de_int da_nil)) (blkOk_by (N := N_law_right) (sc := defScope s_law_right) (by decide +kernel)) (fun _ _ _ _ _ => (dg_name (i := 9) nd)) (fun _ _ _ _ _ => dts_nil) (fun _ _ _ _ _ => (de_call ok_law_refused (hr.mono (by decide)) rfl A_law_refused.mg A_law_refused.fn.kp A_law_refused.bd (da_cons (de_var 9) (da_cons (de_var 2) (da_cons (de_var 7) da_nil)))))) (da_cons (de_rep (de_lst (da_cons de_non da_nil)) de_int) da_nil))))) (dss_one (ds_ret de_bl)) dss_nil))))))))))
    (dss_one (ds_ret de_bl)))))
theorem sc_law : FnScope N_law P_law (defScope s_law) := ⟨rfl, rfl, rfl, by decide +kernel, rfl, by decide +kernel, by decide +kernel⟩
theorem ok_law {f_law : Addr} {d_law : FuncData} (A_law : At K mg "law" s_law P_law f_law d_law) {f_law_cells : Addr} {d_law_cells : FuncData} (A_law_cells : At K mg "_law_cells" s_law_cells P_law_cells f_law_cells d_law_cells) {f_law_box : Addr} {d_law_box : FuncData} (A_law_box : At K mg "_law_box" s_law_box P_law_box f_law_box d_law_box) {f_law_right : Addr} {d_law_right : FuncData} (A_law_right : At K mg "_law_right" s_law_right P_law_right f_law_right d_law_right) (ok_law_cells : FnG P w K mg base CX0 1 f_law_cells d_law_cells P_law_cells (spD none F_law_cells)) (ok_law_box : FnG P w K mg base CX0 1 f_law_box d_law_box P_law_box (spD none F_law_box)) (ok_law_right : FnG P w K mg base CX0 10 f_law_right d_law_right P_law_right (spD (some 0) (F_law_right cl))) (XB : Xb P w K mg base cl) (B : Gb mg) : FnG P w K mg base CX0 11 f_law d_law P_law (spD none (F_law cl)) := okD A_law.fn sc_law fun cdv A outer s H E hr => by
  have nd := sc_law.nd
  have hu64 := hr.units
  have hu65 := room65 hr
  exact (dss_cons (ds_set (i := 1) nd (de_call ok_law_cells (hr.mono (by decide)) rfl A_law_cells.mg A_law_cells.fn.kp A_law_cells.bd (da_cons (de_var 0) (da_cons de_int da_nil))))
    (dss_cons (ds_for PassesOwn.never rfl (di_rng1 rfl B.n_range (da_cons (de_callB call_len opA_len rfl B.n_len (by decide +kernel) (da_cons (de_var 1) da_nil)) da_nil)) (dg_name (i := 2) nd) (dss_cons (ds_set (i := 3) nd (de_call ok_law_box (hr.mono (by decide)) rfl A_law_box.mg A_law_box.fn.kp A_law_box.bd (da_cons (de_var 1) (da_cons (de_var 2) da_nil))))
    (dss_one (ds_if (dt_not (dt_val (de_callB (cr_all rfl) opA_all rfl B.n_all (by decide +kernel) (da_cons (de_lc (own := [("_law_turn", 4)]) rfl nd (di_rng1 rfl B.n_range (da_cons de_int da_nil)) (blkOk_by (N := N_law) (sc := defScope s_law) (by decide +kernel)) (fun _ _ _ _ _ => (dg_name (i := 4) nd)) (fun _ _ _ _ _ => dts_nil) (fun _ _ _ _ _ => (de_call ok_law_right (hr.mono (by decide)) rfl A_law_right.mg A_law_right.fn.kp A_law_right.bd (da_cons (de_var 3) da_nil)))) da_nil)))) (dss_one (ds_ret de_bl)) dss_nil))))
    (dss_one (ds_ret de_bl))))
end
section
theorem all_mk {l : PySem.W.OpenLaw} {w : World} {K : PySem.W.Frag} {h : Heap} {mg : Str → Option Value} {fa : Addr} (X : K.In h) (G : h.Ns mainGlobals mg) (hfa : mg "law" = some (.ref fa))
    {f_law_cells : Addr} {o_law_cells n_law_cells : Option Addr} {sl_law_cells : Array (Option Value)} {c_law_cells kV_law_cells dc_law_cells pm_law_cells cd_law_cells ct_law_cells : Value} {f_law_box : Addr} {o_law_box n_law_box : Option Addr} {sl_law_box : Array (Option Value)} {c_law_box kV_law_box dc_law_box pm_law_box cd_law_box ct_law_box : Value} {f_law_paired : Addr} {o_law_paired n_law_paired : Option Addr} {sl_law_paired : Array (Option Value)} {c_law_paired kV_law_paired dc_law_paired pm_law_paired cd_law_paired ct_law_paired : Value} {f_law_take : Addr} {o_law_take n_law_take : Option Addr} {sl_law_take : Array (Option Value)} {c_law_take kV_law_take dc_law_take pm_law_take cd_law_take ct_law_take : Value} {f_law_strewn : Addr} {o_law_strewn n_law_strewn : Option Addr} {sl_law_strewn : Array (Option Value)} {c_law_strewn kV_law_strewn dc_law_strewn pm_law_strewn cd_law_strewn ct_law_strewn : Value} {f_law_random : Addr} {o_law_random n_law_random : Option Addr} {sl_law_random : Array (Option Value)} {c_law_random kV_law_random dc_law_random pm_law_random cd_law_random ct_law_random : Value} {f_law_any_call : Addr} {o_law_any_call n_law_any_call : Option Addr} {sl_law_any_call : Array (Option Value)} {c_law_any_call kV_law_any_call dc_law_any_call pm_law_any_call cd_law_any_call ct_law_any_call : Value} {f_law_of : Addr} {o_law_of n_law_of : Option Addr} {sl_law_of : Array (Option Value)} {c_law_of kV_law_of dc_law_of pm_law_of cd_law_of ct_law_of : Value} {f_law_wrong_call : Addr} {o_law_wrong_call n_law_wrong_call : Option Addr} {sl_law_wrong_call : Array (Option Value)} {c_law_wrong_call kV_law_wrong_call dc_law_wrong_call pm_law_wrong_call cd_law_wrong_call ct_law_wrong_call : Value} {f_law_some_calls : Addr} {o_law_some_calls n_law_some_calls : Option Addr} {sl_law_some_calls : Array (Option Value)} {c_law_some_calls kV_law_some_calls dc_law_some_calls pm_law_some_calls cd_law_some_calls ct_law_some_calls : Value} {f_look_person : Addr} {o_look_person n_look_person : Option Addr} {sl_look_person : Array (Option Value)} {c_look_person kV_look_person dc_look_person pm_look_person cd_look_person ct_look_person : Value} {f_look_call : Addr} {o_look_call n_look_call : Option Addr} {sl_look_call : Array (Option Value)} {c_look_call kV_look_call dc_look_call pm_look_call cd_look_call ct_look_call : Value} {f_after_call : Addr} {o_after_call n_after_call : Option Addr} {sl_after_call : Array (Option Value)} {c_after_call kV_after_call dc_after_call pm_after_call cd_after_call ct_after_call : Value} {f_called : Addr} {o_called n_called : Option Addr} {sl_called : Array (Option Value)} {c_called kV_called dc_called pm_called cd_called ct_called : Value} {f_people_of : Addr} {o_people_of n_people_of : Option Addr} {sl_people_of : Array (Option Value)} {c_people_of kV_people_of dc_people_of pm_people_of cd_people_of ct_people_of : Value} {f_with_joins : Addr} {o_with_joins n_with_joins : Option Addr} {sl_with_joins : Array (Option Value)} {c_with_joins kV_with_joins dc_with_joins pm_with_joins cd_with_joins ct_with_joins : Value} {f_added : Addr} {o_added n_added : Option Addr} {sl_added : Array (Option Value)} {c_added kV_added dc_added pm_added cd_added ct_added : Value} {f_with_call : Addr} {o_with_call n_with_call : Option Addr} {sl_with_call : Array (Option Value)} {c_with_call kV_with_call dc_with_call pm_with_call cd_with_call ct_with_call : Value} {f_look_word : Addr} {o_look_word n_look_word : Option Addr} {sl_look_word : Array (Option Value)} {c_look_word kV_look_word dc_look_word pm_look_word cd_look_word ct_look_word : Value} {f_empty_sheet : Addr} {o_empty_sheet n_empty_sheet : Option Addr} {sl_empty_sheet : Array (Option Value)} {c_empty_sheet kV_empty_sheet dc_empty_sheet pm_empty_sheet cd_empty_sheet ct_empty_sheet : Value} {f_sheet_of : Addr} {o_sheet_of n_sheet_of : Option Addr} {sl_sheet_of : Array (Option Value)} {c_sheet_of kV_sheet_of dc_sheet_of pm_sheet_of cd_sheet_of ct_sheet_of : Value} {f_law_sheet_of : Addr} {o_law_sheet_of n_law_sheet_of : Option Addr} {sl_law_sheet_of : Array (Option Value)} {c_law_sheet_of kV_law_sheet_of dc_law_sheet_of pm_law_sheet_of cd_law_sheet_of ct_law_sheet_of : Value} {f_pairings_along : Addr} {o_pairings_along n_pairings_along : Option Addr} {sl_pairings_along : Array (Option Value)} {c_pairings_along kV_pairings_along dc_pairings_along pm_pairings_along cd_pairings_along ct_pairings_along : Value} {f_called_all : Addr} {o_called_all n_called_all : Option Addr} {sl_called_all : Array (Option Value)} {c_called_all kV_called_all dc_called_all pm_called_all cd_called_all ct_called_all : Value} {f_idle_calls : Addr} {o_idle_calls n_idle_calls : Option Addr} {sl_idle_calls : Array (Option Value)} {c_idle_calls kV_idle_calls dc_idle_calls pm_idle_calls cd_idle_calls ct_idle_calls : Value} {f_law_asked : Addr} {o_law_asked n_law_asked : Option Addr} {sl_law_asked : Array (Option Value)} {c_law_asked kV_law_asked dc_law_asked pm_law_asked cd_law_asked ct_law_asked : Value} {f_law_refused : Addr} {o_law_refused n_law_refused : Option Addr} {sl_law_refused : Array (Option Value)} {c_law_refused kV_law_refused dc_law_refused pm_law_refused cd_law_refused ct_law_refused : Value} {f_law_same : Addr} {o_law_same n_law_same : Option Addr} {sl_law_same : Array (Option Value)} {c_law_same kV_law_same dc_law_same pm_law_same cd_law_same ct_law_same : Value} {f_law_right : Addr} {o_law_right n_law_right : Option Addr} {sl_law_right : Array (Option Value)} {c_law_right kV_law_right dc_law_right pm_law_right cd_law_right ct_law_right : Value} {f_law : Addr} {o_law n_law : Option Addr} {sl_law : Array (Option Value)} {c_law kV_law dc_law pm_law cd_law ct_law : Value}
    (a_law_cells : PySem.W.nsIn K mainGlobals "_law_cells" = some (some (.ref f_law_cells))) (l_law_cells : K.lookup f_law_cells = some ⟨c_law_cells, o_law_cells, .func (PySem.W.fnOf "_law_cells" "_law_cells" (defArgs s_law_cells) (defBody s_law_cells) (defScope s_law_cells) .none kV_law_cells dc_law_cells pm_law_cells n_law_cells cd_law_cells ct_law_cells), sl_law_cells⟩) (e_law_cells : PySem.W.codeIn K cd_law_cells "_law_cells" = true) (k_law_cells : PySem.W.keepIn K (.ref f_law_cells) = true)
    (a_law_box : PySem.W.nsIn K mainGlobals "_law_box" = some (some (.ref f_law_box))) (l_law_box : K.lookup f_law_box = some ⟨c_law_box, o_law_box, .func (PySem.W.fnOf "_law_box" "_law_box" (defArgs s_law_box) (defBody s_law_box) (defScope s_law_box) .none kV_law_box dc_law_box pm_law_box n_law_box cd_law_box ct_law_box), sl_law_box⟩) (e_law_box : PySem.W.codeIn K cd_law_box "_law_box" = true) (k_law_box : PySem.W.keepIn K (.ref f_law_box) = true)
    (a_law_paired : PySem.W.nsIn K mainGlobals "_law_paired" = some (some (.ref f_law_paired))) (l_law_paired : K.lookup f_law_paired = some ⟨c_law_paired, o_law_paired, .func (PySem.W.fnOf "_law_paired" "_law_paired" (defArgs s_law_paired) (defBody s_law_paired) (defScope s_law_paired) .none kV_law_paired dc_law_paired pm_law_paired n_law_paired cd_law_paired ct_law_paired), sl_law_paired⟩) (e_law_paired : PySem.W.codeIn K cd_law_paired "_law_paired" = true) (k_law_paired : PySem.W.keepIn K (.ref f_law_paired) = true)
    (a_law_take : PySem.W.nsIn K mainGlobals "_law_take" = some (some (.ref f_law_take))) (l_law_take : K.lookup f_law_take = some ⟨c_law_take, o_law_take, .func (PySem.W.fnOf "_law_take" "_law_take" (defArgs s_law_take) (defBody s_law_take) (defScope s_law_take) .none kV_law_take dc_law_take pm_law_take n_law_take cd_law_take ct_law_take), sl_law_take⟩) (e_law_take : PySem.W.codeIn K cd_law_take "_law_take" = true) (k_law_take : PySem.W.keepIn K (.ref f_law_take) = true)
    (a_law_strewn : PySem.W.nsIn K mainGlobals "_law_strewn" = some (some (.ref f_law_strewn))) (l_law_strewn : K.lookup f_law_strewn = some ⟨c_law_strewn, o_law_strewn, .func (PySem.W.fnOf "_law_strewn" "_law_strewn" (defArgs s_law_strewn) (defBody s_law_strewn) (defScope s_law_strewn) .none kV_law_strewn dc_law_strewn pm_law_strewn n_law_strewn cd_law_strewn ct_law_strewn), sl_law_strewn⟩) (e_law_strewn : PySem.W.codeIn K cd_law_strewn "_law_strewn" = true) (k_law_strewn : PySem.W.keepIn K (.ref f_law_strewn) = true)
    (a_law_random : PySem.W.nsIn K mainGlobals "_law_random" = some (some (.ref f_law_random))) (l_law_random : K.lookup f_law_random = some ⟨c_law_random, o_law_random, .func (PySem.W.fnOf "_law_random" "_law_random" (defArgs s_law_random) (defBody s_law_random) (defScope s_law_random) .none kV_law_random dc_law_random pm_law_random n_law_random cd_law_random ct_law_random), sl_law_random⟩) (e_law_random : PySem.W.codeIn K cd_law_random "_law_random" = true) (k_law_random : PySem.W.keepIn K (.ref f_law_random) = true)
    (a_law_any_call : PySem.W.nsIn K mainGlobals "_law_any_call" = some (some (.ref f_law_any_call))) (l_law_any_call : K.lookup f_law_any_call = some ⟨c_law_any_call, o_law_any_call, .func (PySem.W.fnOf "_law_any_call" "_law_any_call" (defArgs s_law_any_call) (defBody s_law_any_call) (defScope s_law_any_call) .none kV_law_any_call dc_law_any_call pm_law_any_call n_law_any_call cd_law_any_call ct_law_any_call), sl_law_any_call⟩) (e_law_any_call : PySem.W.codeIn K cd_law_any_call "_law_any_call" = true) (k_law_any_call : PySem.W.keepIn K (.ref f_law_any_call) = true)
    (a_law_of : PySem.W.nsIn K mainGlobals "_law_of" = some (some (.ref f_law_of))) (l_law_of : K.lookup f_law_of = some ⟨c_law_of, o_law_of, .func (PySem.W.fnOf "_law_of" "_law_of" (defArgs s_law_of) (defBody s_law_of) (defScope s_law_of) .none kV_law_of dc_law_of pm_law_of n_law_of cd_law_of ct_law_of), sl_law_of⟩) (e_law_of : PySem.W.codeIn K cd_law_of "_law_of" = true) (k_law_of : PySem.W.keepIn K (.ref f_law_of) = true)
    (a_law_wrong_call : PySem.W.nsIn K mainGlobals "_law_wrong_call" = some (some (.ref f_law_wrong_call))) (l_law_wrong_call : K.lookup f_law_wrong_call = some ⟨c_law_wrong_call, o_law_wrong_call, .func (PySem.W.fnOf "_law_wrong_call" "_law_wrong_call" (defArgs s_law_wrong_call) (defBody s_law_wrong_call) (defScope s_law_wrong_call) .none kV_law_wrong_call dc_law_wrong_call pm_law_wrong_call n_law_wrong_call cd_law_wrong_call ct_law_wrong_call), sl_law_wrong_call⟩) (e_law_wrong_call : PySem.W.codeIn K cd_law_wrong_call "_law_wrong_call" = true) (k_law_wrong_call : PySem.W.keepIn K (.ref f_law_wrong_call) = true)
    (a_law_some_calls : PySem.W.nsIn K mainGlobals "_law_some_calls" = some (some (.ref f_law_some_calls))) (l_law_some_calls : K.lookup f_law_some_calls = some ⟨c_law_some_calls, o_law_some_calls, .func (PySem.W.fnOf "_law_some_calls" "_law_some_calls" (defArgs s_law_some_calls) (defBody s_law_some_calls) (defScope s_law_some_calls) .none kV_law_some_calls dc_law_some_calls pm_law_some_calls n_law_some_calls cd_law_some_calls ct_law_some_calls), sl_law_some_calls⟩) (e_law_some_calls : PySem.W.codeIn K cd_law_some_calls "_law_some_calls" = true) (k_law_some_calls : PySem.W.keepIn K (.ref f_law_some_calls) = true)
    (a_look_person : PySem.W.nsIn K mainGlobals "look_person" = some (some (.ref f_look_person))) (l_look_person : K.lookup f_look_person = some ⟨c_look_person, o_look_person, .func (PySem.W.fnOf "look_person" "look_person" (defArgs s_look_person) (defBody s_look_person) (defScope s_look_person) .none kV_look_person dc_look_person pm_look_person n_look_person cd_look_person ct_look_person), sl_look_person⟩) (e_look_person : PySem.W.codeIn K cd_look_person "look_person" = true) (k_look_person : PySem.W.keepIn K (.ref f_look_person) = true)
    (a_look_call : PySem.W.nsIn K mainGlobals "look_call" = some (some (.ref f_look_call))) (l_look_call : K.lookup f_look_call = some ⟨c_look_call, o_look_call, .func (PySem.W.fnOf "look_call" "look_call" (defArgs s_look_call) (defBody s_look_call) (defScope s_look_call) .none kV_look_call dc_look_call pm_look_call n_look_call cd_look_call ct_look_call), sl_look_call⟩) (e_look_call : PySem.W.codeIn K cd_look_call "look_call" = true) (k_look_call : PySem.W.keepIn K (.ref f_look_call) = true)
    (a_after_call : PySem.W.nsIn K mainGlobals "after_call" = some (some (.ref f_after_call))) (l_after_call : K.lookup f_after_call = some ⟨c_after_call, o_after_call, .func (PySem.W.fnOf "after_call" "after_call" (defArgs s_after_call) (defBody s_after_call) (defScope s_after_call) .none kV_after_call dc_after_call pm_after_call n_after_call cd_after_call ct_after_call), sl_after_call⟩) (e_after_call : PySem.W.codeIn K cd_after_call "after_call" = true) (k_after_call : PySem.W.keepIn K (.ref f_after_call) = true)
    (a_called : PySem.W.nsIn K mainGlobals "called" = some (some (.ref f_called))) (l_called : K.lookup f_called = some ⟨c_called, o_called, .func (PySem.W.fnOf "called" "called" (defArgs s_called) (defBody s_called) (defScope s_called) .none kV_called dc_called pm_called n_called cd_called ct_called), sl_called⟩) (e_called : PySem.W.codeIn K cd_called "called" = true) (k_called : PySem.W.keepIn K (.ref f_called) = true)
    (a_people_of : PySem.W.nsIn K mainGlobals "people_of" = some (some (.ref f_people_of))) (l_people_of : K.lookup f_people_of = some ⟨c_people_of, o_people_of, .func (PySem.W.fnOf "people_of" "people_of" (defArgs s_people_of) (defBody s_people_of) (defScope s_people_of) .none kV_people_of dc_people_of pm_people_of n_people_of cd_people_of ct_people_of), sl_people_of⟩) (e_people_of : PySem.W.codeIn K cd_people_of "people_of" = true) (k_people_of : PySem.W.keepIn K (.ref f_people_of) = true)
    (a_with_joins : PySem.W.nsIn K mainGlobals "with_joins" = some (some (.ref f_with_joins))) (l_with_joins : K.lookup f_with_joins = some ⟨c_with_joins, o_with_joins, .func (PySem.W.fnOf "with_joins" "with_joins" (defArgs s_with_joins) (defBody s_with_joins) (defScope s_with_joins) .none kV_with_joins dc_with_joins pm_with_joins n_with_joins cd_with_joins ct_with_joins), sl_with_joins⟩) (e_with_joins : PySem.W.codeIn K cd_with_joins "with_joins" = true) (k_with_joins : PySem.W.keepIn K (.ref f_with_joins) = true)
    (a_added : PySem.W.nsIn K mainGlobals "added" = some (some (.ref f_added))) (l_added : K.lookup f_added = some ⟨c_added, o_added, .func (PySem.W.fnOf "added" "added" (defArgs s_added) (defBody s_added) (defScope s_added) .none kV_added dc_added pm_added n_added cd_added ct_added), sl_added⟩) (e_added : PySem.W.codeIn K cd_added "added" = true) (k_added : PySem.W.keepIn K (.ref f_added) = true)
    (a_with_call : PySem.W.nsIn K mainGlobals "with_call" = some (some (.ref f_with_call))) (l_with_call : K.lookup f_with_call = some ⟨c_with_call, o_with_call, .func (PySem.W.fnOf "with_call" "with_call" (defArgs s_with_call) (defBody s_with_call) (defScope s_with_call) .none kV_with_call dc_with_call pm_with_call n_with_call cd_with_call ct_with_call), sl_with_call⟩) (e_with_call : PySem.W.codeIn K cd_with_call "with_call" = true) (k_with_call : PySem.W.keepIn K (.ref f_with_call) = true)
    (a_look_word : PySem.W.nsIn K mainGlobals "look_word" = some (some (.ref f_look_word))) (l_look_word : K.lookup f_look_word = some ⟨c_look_word, o_look_word, .func (PySem.W.fnOf "look_word" "look_word" (defArgs s_look_word) (defBody s_look_word) (defScope s_look_word) .none kV_look_word dc_look_word pm_look_word n_look_word cd_look_word ct_look_word), sl_look_word⟩) (e_look_word : PySem.W.codeIn K cd_look_word "look_word" = true) (k_look_word : PySem.W.keepIn K (.ref f_look_word) = true)
    (a_empty_sheet : PySem.W.nsIn K mainGlobals "empty_sheet" = some (some (.ref f_empty_sheet))) (l_empty_sheet : K.lookup f_empty_sheet = some ⟨c_empty_sheet, o_empty_sheet, .func (PySem.W.fnOf "empty_sheet" "empty_sheet" (defArgs s_empty_sheet) (defBody s_empty_sheet) (defScope s_empty_sheet) .none kV_empty_sheet dc_empty_sheet pm_empty_sheet n_empty_sheet cd_empty_sheet ct_empty_sheet), sl_empty_sheet⟩) (e_empty_sheet : PySem.W.codeIn K cd_empty_sheet "empty_sheet" = true) (k_empty_sheet : PySem.W.keepIn K (.ref f_empty_sheet) = true)
    (a_sheet_of : PySem.W.nsIn K mainGlobals "sheet_of" = some (some (.ref f_sheet_of))) (l_sheet_of : K.lookup f_sheet_of = some ⟨c_sheet_of, o_sheet_of, .func (PySem.W.fnOf "sheet_of" "sheet_of" (defArgs s_sheet_of) (defBody s_sheet_of) (defScope s_sheet_of) .none kV_sheet_of dc_sheet_of pm_sheet_of n_sheet_of cd_sheet_of ct_sheet_of), sl_sheet_of⟩) (e_sheet_of : PySem.W.codeIn K cd_sheet_of "sheet_of" = true) (k_sheet_of : PySem.W.keepIn K (.ref f_sheet_of) = true)
    (a_law_sheet_of : PySem.W.nsIn K mainGlobals "_law_sheet_of" = some (some (.ref f_law_sheet_of))) (l_law_sheet_of : K.lookup f_law_sheet_of = some ⟨c_law_sheet_of, o_law_sheet_of, .func (PySem.W.fnOf "_law_sheet_of" "_law_sheet_of" (defArgs s_law_sheet_of) (defBody s_law_sheet_of) (defScope s_law_sheet_of) .none kV_law_sheet_of dc_law_sheet_of pm_law_sheet_of n_law_sheet_of cd_law_sheet_of ct_law_sheet_of), sl_law_sheet_of⟩) (e_law_sheet_of : PySem.W.codeIn K cd_law_sheet_of "_law_sheet_of" = true) (k_law_sheet_of : PySem.W.keepIn K (.ref f_law_sheet_of) = true)
    (a_pairings_along : PySem.W.nsIn K mainGlobals "pairings_along" = some (some (.ref f_pairings_along))) (l_pairings_along : K.lookup f_pairings_along = some ⟨c_pairings_along, o_pairings_along, .func (PySem.W.fnOf "pairings_along" "pairings_along" (defArgs s_pairings_along) (defBody s_pairings_along) (defScope s_pairings_along) .none kV_pairings_along dc_pairings_along pm_pairings_along n_pairings_along cd_pairings_along ct_pairings_along), sl_pairings_along⟩) (e_pairings_along : PySem.W.codeIn K cd_pairings_along "pairings_along" = true) (k_pairings_along : PySem.W.keepIn K (.ref f_pairings_along) = true)
    (a_called_all : PySem.W.nsIn K mainGlobals "called_all" = some (some (.ref f_called_all))) (l_called_all : K.lookup f_called_all = some ⟨c_called_all, o_called_all, .func (PySem.W.fnOf "called_all" "called_all" (defArgs s_called_all) (defBody s_called_all) (defScope s_called_all) .none kV_called_all dc_called_all pm_called_all n_called_all cd_called_all ct_called_all), sl_called_all⟩) (e_called_all : PySem.W.codeIn K cd_called_all "called_all" = true) (k_called_all : PySem.W.keepIn K (.ref f_called_all) = true)
    (a_idle_calls : PySem.W.nsIn K mainGlobals "idle_calls" = some (some (.ref f_idle_calls))) (l_idle_calls : K.lookup f_idle_calls = some ⟨c_idle_calls, o_idle_calls, .func (PySem.W.fnOf "idle_calls" "idle_calls" (defArgs s_idle_calls) (defBody s_idle_calls) (defScope s_idle_calls) .none kV_idle_calls dc_idle_calls pm_idle_calls n_idle_calls cd_idle_calls ct_idle_calls), sl_idle_calls⟩) (e_idle_calls : PySem.W.codeIn K cd_idle_calls "idle_calls" = true) (k_idle_calls : PySem.W.keepIn K (.ref f_idle_calls) = true)
    (a_law_asked : PySem.W.nsIn K mainGlobals "_law_asked" = some (some (.ref f_law_asked))) (l_law_asked : K.lookup f_law_asked = some ⟨c_law_asked, o_law_asked, .func (PySem.W.fnOf "_law_asked" "_law_asked" (defArgs s_law_asked) (defBody s_law_asked) (defScope s_law_asked) .none kV_law_asked dc_law_asked pm_law_asked n_law_asked cd_law_asked ct_law_asked), sl_law_asked⟩) (e_law_asked : PySem.W.codeIn K cd_law_asked "_law_asked" = true) (k_law_asked : PySem.W.keepIn K (.ref f_law_asked) = true)
    (a_law_refused : PySem.W.nsIn K mainGlobals "_law_refused" = some (some (.ref f_law_refused))) (l_law_refused : K.lookup f_law_refused = some ⟨c_law_refused, o_law_refused, .func (PySem.W.fnOf "_law_refused" "_law_refused" (defArgs s_law_refused) (defBody s_law_refused) (defScope s_law_refused) .none kV_law_refused dc_law_refused pm_law_refused n_law_refused cd_law_refused ct_law_refused), sl_law_refused⟩) (e_law_refused : PySem.W.codeIn K cd_law_refused "_law_refused" = true) (k_law_refused : PySem.W.keepIn K (.ref f_law_refused) = true)
    (a_law_same : PySem.W.nsIn K mainGlobals "_law_same" = some (some (.ref f_law_same))) (l_law_same : K.lookup f_law_same = some ⟨c_law_same, o_law_same, .func (PySem.W.fnOf "_law_same" "_law_same" (defArgs s_law_same) (defBody s_law_same) (defScope s_law_same) .none kV_law_same dc_law_same pm_law_same n_law_same cd_law_same ct_law_same), sl_law_same⟩) (e_law_same : PySem.W.codeIn K cd_law_same "_law_same" = true) (k_law_same : PySem.W.keepIn K (.ref f_law_same) = true)
    (a_law_right : PySem.W.nsIn K mainGlobals "_law_right" = some (some (.ref f_law_right))) (l_law_right : K.lookup f_law_right = some ⟨c_law_right, o_law_right, .func (PySem.W.fnOf "_law_right" "_law_right" (defArgs s_law_right) (defBody s_law_right) (defScope s_law_right) .none kV_law_right dc_law_right pm_law_right n_law_right cd_law_right ct_law_right), sl_law_right⟩) (e_law_right : PySem.W.codeIn K cd_law_right "_law_right" = true) (k_law_right : PySem.W.keepIn K (.ref f_law_right) = true)
    (a_law : PySem.W.nsIn K mainGlobals "law" = some (some (.ref f_law))) (l_law : K.lookup f_law = some ⟨c_law, o_law, .func (PySem.W.fnOf "law" "law" (defArgs s_law) (defBody s_law) (defScope s_law) .none kV_law dc_law pm_law n_law cd_law ct_law), sl_law⟩) (e_law : PySem.W.codeIn K cd_law "law" = true) (k_law : PySem.W.keepIn K (.ref f_law) = true)
    {c_XNoPerson c_XNoNumber c_XNotShortest c_XOtherSize : Addr}
    (aX_NoPerson : PySem.W.nsIn K mainGlobals "NoPerson" = some (some (.ref c_XNoPerson)))
    (aX_NoNumber : PySem.W.nsIn K mainGlobals "NoNumber" = some (some (.ref c_XNoNumber)))
    (aX_NotShortest : PySem.W.nsIn K mainGlobals "NotShortest" = some (some (.ref c_XNotShortest)))
    (aX_OtherSize : PySem.W.nsIn K mainGlobals "OtherSize" = some (some (.ref c_XOtherSize)))
    {i_XNoPerson : Addr} {oX_NoPerson nX_NoPerson : Option Addr} {slX_NoPerson : Array (Option Value)} {cX_NoPerson kVX_NoPerson dcX_NoPerson pmX_NoPerson cdX_NoPerson ctX_NoPerson : Value}
    (iX_NoPerson : PySem.W.findIn K (.ref c_XNoPerson) "__init__" = some (some (.ref i_XNoPerson))) (lX_NoPerson : K.lookup i_XNoPerson = some ⟨cX_NoPerson, oX_NoPerson, .func (PySem.W.fnOf "__init__" "NoPerson.__init__" (defArgs sI_NoPerson) (defBody sI_NoPerson) (defScope sI_NoPerson) .none kVX_NoPerson dcX_NoPerson pmX_NoPerson nX_NoPerson cdX_NoPerson ctX_NoPerson), slX_NoPerson⟩) (eX_NoPerson : PySem.W.codeIn K cdX_NoPerson "NoPerson.__init__" = true) (kX_NoPerson : PySem.W.keepIn K (.ref i_XNoPerson) = true) (tX_NoPerson : PySem.W.typeIn K (.ref i_XNoPerson) = some (.type "function"))
    (bX_NoPerson : clsB K c_XNoPerson DX.mLE "LookupError.__new__" = true)
    (noX_NoPerson : PySem.W.findIn K (.ref c_XNoPerson) "person" = some none)
    (vX_LookupError : PySem.W.findCls K (.type "LookupError") (.type "type") "__init__" = some (.val (.builtin "LookupError.__init__")))
    (fX_0 : PySem.W.exmAny K (.ref c_XNoPerson) [(Value.ref c_XNoPerson), (Value.ref c_XNoNumber), (Value.ref c_XNotShortest), (Value.ref c_XOtherSize)] = some true)
    (fX_1 : PySem.W.kitOne K (.type "NoneType") (Value.ref c_XNoPerson) = some false)
    (fX_2 : PySem.W.kitOne K (.ref c_XNoPerson) (Value.ref c_XNoPerson) = some true)
    (fX_3 : PySem.W.kitOne K (.type "NoneType") (Value.type "LookupError") = some false)
    (fX_4 : PySem.W.kitOne K (.ref c_XNoPerson) (Value.type "LookupError") = some true)
    (fX_5 : PySem.W.kitAny K (.type "NoneType") [(Value.type "IndexError"), (Value.type "KeyError"), (Value.ref c_XNoNumber), (Value.type "ValueError")] = some false)
    (fX_6 : PySem.W.kitAny K (.ref c_XNoPerson) [(Value.type "IndexError"), (Value.type "KeyError"), (Value.ref c_XNoNumber), (Value.type "ValueError")] = some false)
    (ndX : decide (([c_XNoPerson, c_XNoNumber, c_XNotShortest, c_XOtherSize] : List Addr).Nodup) = true)
    (z_IndexError : PySem.W.nsIn K mainGlobals "IndexError" = some none)
    (z_KeyError : PySem.W.nsIn K mainGlobals "KeyError" = some none)
    (z_LookupError : PySem.W.nsIn K mainGlobals "LookupError" = some none)
    (z_ValueError : PySem.W.nsIn K mainGlobals "ValueError" = some none)
    (z_abs : PySem.W.nsIn K mainGlobals "abs" = some none)
    (z_all : PySem.W.nsIn K mainGlobals "all" = some none)
    (z_bool : PySem.W.nsIn K mainGlobals "bool" = some none)
    (z_enumerate : PySem.W.nsIn K mainGlobals "enumerate" = some none)
    (z_int : PySem.W.nsIn K mainGlobals "int" = some none)
    (z_isinstance : PySem.W.nsIn K mainGlobals "isinstance" = some none)
    (z_len : PySem.W.nsIn K mainGlobals "len" = some none)
    (z_list : PySem.W.nsIn K mainGlobals "list" = some none)
    (z_max : PySem.W.nsIn K mainGlobals "max" = some none)
    (z_range : PySem.W.nsIn K mainGlobals "range" = some none)
    (z_str : PySem.W.nsIn K mainGlobals "str" = some none)
    (z_tuple : PySem.W.nsIn K mainGlobals "tuple" = some none)
    (z_zip : PySem.W.nsIn K mainGlobals "zip" = some none)
    : ∃ cl : Str → Addr, CInj ["NoPerson", "NoNumber", "NotShortest", "OtherSize"] cl ∧ ∃ fd : FuncData, (∀ (s : Shared) (v : Value), BindsTo s fd ⟨[v], []⟩ [("_law_script", v)]) ∧ ∀ base : Heap, K.In base → base.Ns mainGlobals mg → FnG l.prog w K mg base CX0 11 fa fd P_law (spD none (F_law cl)) := by
  have e := hfa.symm.trans (PySem.W.mg_of X G a_law)
  obtain rfl : fa = f_law := by injection e with e; injection e
  have B : Gb mg := ⟨PySem.W.mg_none_of X G z_IndexError, PySem.W.mg_none_of X G z_KeyError, PySem.W.mg_none_of X G z_LookupError, PySem.W.mg_none_of X G z_ValueError, PySem.W.mg_none_of X G z_abs, PySem.W.mg_none_of X G z_all, PySem.W.mg_none_of X G z_bool, PySem.W.mg_none_of X G z_enumerate, PySem.W.mg_none_of X G z_int, PySem.W.mg_none_of X G z_isinstance, PySem.W.mg_none_of X G z_len, PySem.W.mg_none_of X G z_list, PySem.W.mg_none_of X G z_max, PySem.W.mg_none_of X G z_range, PySem.W.mg_none_of X G z_str, PySem.W.mg_none_of X G z_tuple, PySem.W.mg_none_of X G z_zip⟩
  have u_law_cells := fun_mk (st := s_law_cells) l_law_cells e_law_cells k_law_cells
  have A_law_cells : At K mg "_law_cells" s_law_cells P_law_cells _ _ := ⟨u_law_cells, PySem.W.mg_of X G a_law_cells, u_law_cells.binds (ps := P_law_cells) fun _ _ _ _ _ _ us hl => match us, hl with | [_, _], _ => rfl⟩
  have u_law_box := fun_mk (st := s_law_box) l_law_box e_law_box k_law_box
  have A_law_box : At K mg "_law_box" s_law_box P_law_box _ _ := ⟨u_law_box, PySem.W.mg_of X G a_law_box, u_law_box.binds (ps := P_law_box) fun _ _ _ _ _ _ us hl => match us, hl with | [_, _], _ => rfl⟩
  have u_law_paired := fun_mk (st := s_law_paired) l_law_paired e_law_paired k_law_paired
  have A_law_paired : At K mg "_law_paired" s_law_paired P_law_paired _ _ := ⟨u_law_paired, PySem.W.mg_of X G a_law_paired, u_law_paired.binds (ps := P_law_paired) fun _ _ _ _ _ _ us hl => match us, hl with | [_], _ => rfl⟩
  have u_law_take := fun_mk (st := s_law_take) l_law_take e_law_take k_law_take
  have A_law_take : At K mg "_law_take" s_law_take P_law_take _ _ := ⟨u_law_take, PySem.W.mg_of X G a_law_take, u_law_take.binds (ps := P_law_take) fun _ _ _ _ _ _ us hl => match us, hl with | [_, _], _ => rfl⟩
  have u_law_strewn := fun_mk (st := s_law_strewn) l_law_strewn e_law_strewn k_law_strewn
  have A_law_strewn : At K mg "_law_strewn" s_law_strewn P_law_strewn _ _ := ⟨u_law_strewn, PySem.W.mg_of X G a_law_strewn, u_law_strewn.binds (ps := P_law_strewn) fun _ _ _ _ _ _ us hl => match us, hl with | [_, _], _ => rfl⟩
  have u_law_random := fun_mk (st := s_law_random) l_law_random e_law_random k_law_random
  have A_law_random : At K mg "_law_random" s_law_random P_law_random _ _ := ⟨u_law_random, PySem.W.mg_of X G a_law_random, u_law_random.binds (ps := P_law_random) fun _ _ _ _ _ _ us hl => match us, hl with | [_, _], _ => rfl⟩
  have u_law_any_call := fun_mk (st := s_law_any_call) l_law_any_call e_law_any_call k_law_any_call
  have A_law_any_call : At K mg "_law_any_call" s_law_any_call P_law_any_call _ _ := ⟨u_law_any_call, PySem.W.mg_of X G a_law_any_call, u_law_any_call.binds (ps := P_law_any_call) fun _ _ _ _ _ _ us hl => match us, hl with | [_, _], _ => rfl⟩
  have u_law_of := fun_mk (st := s_law_of) l_law_of e_law_of k_law_of
  have A_law_of : At K mg "_law_of" s_law_of P_law_of _ _ := ⟨u_law_of, PySem.W.mg_of X G a_law_of, u_law_of.binds (ps := P_law_of) fun _ _ _ _ _ _ us hl => match us, hl with | [_, _], _ => rfl⟩
  have u_law_wrong_call := fun_mk (st := s_law_wrong_call) l_law_wrong_call e_law_wrong_call k_law_wrong_call
  have A_law_wrong_call : At K mg "_law_wrong_call" s_law_wrong_call P_law_wrong_call _ _ := ⟨u_law_wrong_call, PySem.W.mg_of X G a_law_wrong_call, u_law_wrong_call.binds (ps := P_law_wrong_call) fun _ _ _ _ _ _ us hl => match us, hl with | [_, _], _ => rfl⟩
  have u_law_some_calls := fun_mk (st := s_law_some_calls) l_law_some_calls e_law_some_calls k_law_some_calls
  have A_law_some_calls : At K mg "_law_some_calls" s_law_some_calls P_law_some_calls _ _ := ⟨u_law_some_calls, PySem.W.mg_of X G a_law_some_calls, u_law_some_calls.binds (ps := P_law_some_calls) fun _ _ _ _ _ _ us hl => match us, hl with | [_, _, _], _ => rfl⟩
  have u_look_person := fun_mk (st := s_look_person) l_look_person e_look_person k_look_person
  have A_look_person : At K mg "look_person" s_look_person P_look_person _ _ := ⟨u_look_person, PySem.W.mg_of X G a_look_person, u_look_person.binds (ps := P_look_person) fun _ _ _ _ _ _ us hl => match us, hl with | [_, _], _ => rfl⟩
  have u_look_call := fun_mk (st := s_look_call) l_look_call e_look_call k_look_call
  have A_look_call : At K mg "look_call" s_look_call P_look_call _ _ := ⟨u_look_call, PySem.W.mg_of X G a_look_call, u_look_call.binds (ps := P_look_call) fun _ _ _ _ _ _ us hl => match us, hl with | [_, _], _ => rfl⟩
  have u_after_call := fun_mk (st := s_after_call) l_after_call e_after_call k_after_call
  have A_after_call : At K mg "after_call" s_after_call P_after_call _ _ := ⟨u_after_call, PySem.W.mg_of X G a_after_call, u_after_call.binds (ps := P_after_call) fun _ _ _ _ _ _ us hl => match us, hl with | [_, _], _ => rfl⟩
  have u_called := fun_mk (st := s_called) l_called e_called k_called
  have A_called : At K mg "called" s_called P_called _ _ := ⟨u_called, PySem.W.mg_of X G a_called, u_called.binds (ps := P_called) fun _ _ _ _ _ _ us hl => match us, hl with | [_, _], _ => rfl⟩
  have u_people_of := fun_mk (st := s_people_of) l_people_of e_people_of k_people_of
  have A_people_of : At K mg "people_of" s_people_of P_people_of _ _ := ⟨u_people_of, PySem.W.mg_of X G a_people_of, u_people_of.binds (ps := P_people_of) fun _ _ _ _ _ _ us hl => match us, hl with | [_], _ => rfl⟩
  have u_with_joins := fun_mk (st := s_with_joins) l_with_joins e_with_joins k_with_joins
  have A_with_joins : At K mg "with_joins" s_with_joins P_with_joins _ _ := ⟨u_with_joins, PySem.W.mg_of X G a_with_joins, u_with_joins.binds (ps := P_with_joins) fun _ _ _ _ _ _ us hl => match us, hl with | [_, _], _ => rfl⟩
  have u_added := fun_mk (st := s_added) l_added e_added k_added
  have A_added : At K mg "added" s_added P_added _ _ := ⟨u_added, PySem.W.mg_of X G a_added, u_added.binds (ps := P_added) fun _ _ _ _ _ _ us hl => match us, hl with | [_, _], _ => rfl⟩
  have u_with_call := fun_mk (st := s_with_call) l_with_call e_with_call k_with_call
  have A_with_call : At K mg "with_call" s_with_call P_with_call _ _ := ⟨u_with_call, PySem.W.mg_of X G a_with_call, u_with_call.binds (ps := P_with_call) fun _ _ _ _ _ _ us hl => match us, hl with | [_, _], _ => rfl⟩
  have u_look_word := fun_mk (st := s_look_word) l_look_word e_look_word k_look_word
  have A_look_word : At K mg "look_word" s_look_word P_look_word _ _ := ⟨u_look_word, PySem.W.mg_of X G a_look_word, u_look_word.binds (ps := P_look_word) fun _ _ _ _ _ _ us hl => match us, hl with | [_, _], _ => rfl⟩
  have u_empty_sheet := fun_mk (st := s_empty_sheet) l_empty_sheet e_empty_sheet k_empty_sheet
  have A_empty_sheet : At K mg "empty_sheet" s_empty_sheet P_empty_sheet _ _ := ⟨u_empty_sheet, PySem.W.mg_of X G a_empty_sheet, u_empty_sheet.binds (ps := P_empty_sheet) fun _ _ _ _ _ _ us hl => match us, hl with | [_], _ => rfl⟩
  have u_sheet_of := fun_mk (st := s_sheet_of) l_sheet_of e_sheet_of k_sheet_of
  have A_sheet_of : At K mg "sheet_of" s_sheet_of P_sheet_of _ _ := ⟨u_sheet_of, PySem.W.mg_of X G a_sheet_of, u_sheet_of.binds (ps := P_sheet_of) fun _ _ _ _ _ _ us hl => match us, hl with | [_, _], _ => rfl⟩
  have u_law_sheet_of := fun_mk (st := s_law_sheet_of) l_law_sheet_of e_law_sheet_of k_law_sheet_of
  have A_law_sheet_of : At K mg "_law_sheet_of" s_law_sheet_of P_law_sheet_of _ _ := ⟨u_law_sheet_of, PySem.W.mg_of X G a_law_sheet_of, u_law_sheet_of.binds (ps := P_law_sheet_of) fun _ _ _ _ _ _ us hl => match us, hl with | [_, _], _ => rfl⟩
  have u_pairings_along := fun_mk (st := s_pairings_along) l_pairings_along e_pairings_along k_pairings_along
  have A_pairings_along : At K mg "pairings_along" s_pairings_along P_pairings_along _ _ := ⟨u_pairings_along, PySem.W.mg_of X G a_pairings_along, u_pairings_along.binds (ps := P_pairings_along) fun _ _ _ _ _ _ us hl => match us, hl with | [_, _], _ => rfl⟩
  have u_called_all := fun_mk (st := s_called_all) l_called_all e_called_all k_called_all
  have A_called_all : At K mg "called_all" s_called_all P_called_all _ _ := ⟨u_called_all, PySem.W.mg_of X G a_called_all, u_called_all.binds (ps := P_called_all) fun _ _ _ _ _ _ us hl => match us, hl with | [_, _], _ => rfl⟩
  have u_idle_calls := fun_mk (st := s_idle_calls) l_idle_calls e_idle_calls k_idle_calls
  have A_idle_calls : At K mg "idle_calls" s_idle_calls P_idle_calls _ _ := ⟨u_idle_calls, PySem.W.mg_of X G a_idle_calls, u_idle_calls.binds (ps := P_idle_calls) fun _ _ _ _ _ _ us hl => match us, hl with | [_, _], _ => rfl⟩
  have u_law_asked := fun_mk (st := s_law_asked) l_law_asked e_law_asked k_law_asked
  have A_law_asked : At K mg "_law_asked" s_law_asked P_law_asked _ _ := ⟨u_law_asked, PySem.W.mg_of X G a_law_asked, u_law_asked.binds (ps := P_law_asked) fun _ _ _ _ _ _ us hl => match us, hl with | [_, _, _], _ => rfl⟩
  have u_law_refused := fun_mk (st := s_law_refused) l_law_refused e_law_refused k_law_refused
  have A_law_refused : At K mg "_law_refused" s_law_refused P_law_refused _ _ := ⟨u_law_refused, PySem.W.mg_of X G a_law_refused, u_law_refused.binds (ps := P_law_refused) fun _ _ _ _ _ _ us hl => match us, hl with | [_, _, _], _ => rfl⟩
  have u_law_same := fun_mk (st := s_law_same) l_law_same e_law_same k_law_same
  have A_law_same : At K mg "_law_same" s_law_same P_law_same _ _ := ⟨u_law_same, PySem.W.mg_of X G a_law_same, u_law_same.binds (ps := P_law_same) fun _ _ _ _ _ _ us hl => match us, hl with | [_, _], _ => rfl⟩
  have u_law_right := fun_mk (st := s_law_right) l_law_right e_law_right k_law_right
  have A_law_right : At K mg "_law_right" s_law_right P_law_right _ _ := ⟨u_law_right, PySem.W.mg_of X G a_law_right, u_law_right.binds (ps := P_law_right) fun _ _ _ _ _ _ us hl => match us, hl with | [_], _ => rfl⟩
  have u_law := fun_mk (st := s_law) l_law e_law k_law
  have A_law : At K mg "law" s_law P_law _ _ := ⟨u_law, PySem.W.mg_of X G a_law, u_law.binds (ps := P_law) fun _ _ _ _ _ _ us hl => match us, hl with | [_], _ => rfl⟩
  obtain ⟨cl, hcl⟩ : ∃ cl, cl = clOf (List.zip ["NoPerson", "NoNumber", "NotShortest", "OtherSize"] [c_XNoPerson, c_XNoNumber, c_XNotShortest, c_XOtherSize]) := ⟨_, rfl⟩
  have eX_cNoPerson : cl "NoPerson" = c_XNoPerson := by rw [hcl]; rfl
  have eX_cNoNumber : cl "NoNumber" = c_XNoNumber := by rw [hcl]; rfl
  have eX_cNotShortest : cl "NotShortest" = c_XNotShortest := by rw [hcl]; rfl
  have eX_cOtherSize : cl "OtherSize" = c_XOtherSize := by rw [hcl]; rfl
  refine ⟨cl, by rw [hcl]; exact clOf_inj rfl ndX, ?_⟩
  refine ⟨PySem.W.fnOf "law" "law" (defArgs s_law) (defBody s_law) (defScope s_law) .none kV_law dc_law pm_law n_law cd_law ct_law, fun s v => .of_eq rfl, fun base _ _ => ?_⟩
  have uX_NoPerson := fun_mk (st := sI_NoPerson) lX_NoPerson eX_NoPerson kX_NoPerson
  have oX_NoPerson := okI_NoPerson (P := l.prog) (w := w) (base := base) uX_NoPerson (clsB_ok bX_NoPerson).1 B vX_LookupError noX_NoPerson
  have pX_NoPerson := uX_NoPerson.binds (ps := ["self", "person"]) fun _ _ _ _ _ _ us hl => match us, hl with | [_, _], _ => rfl
  have XB : Xb l.prog w K mg base cl := by
    constructor
    · rw [eX_cNoPerson]; exact PySem.W.mg_of X G aX_NoPerson
    · rw [eX_cNoNumber]; exact PySem.W.mg_of X G aX_NoNumber
    · rw [eX_cNotShortest]; exact PySem.W.mg_of X G aX_NotShortest
    · rw [eX_cOtherSize]; exact PySem.W.mg_of X G aX_OtherSize
    · exact ⟨by rw [eX_cNoPerson]; exact ⟨_, _, _, _, i_XNoPerson, _, _, DX.bas_LE, (clsB_ok bX_NoPerson).1, iX_NoPerson, tX_NoPerson, oX_NoPerson, pX_NoPerson⟩, by rw [eX_cNoPerson]; exact PySem.W.mg_of X G aX_NoPerson, by rw [eX_cNoPerson]; exact (clsB_ok bX_NoPerson).2, by rw [eX_cNoPerson]; exact noX_NoPerson⟩
    · rw [eX_cNoPerson, eX_cNoNumber, eX_cNotShortest, eX_cOtherSize]; exact fX_0
    · rw [eX_cNoPerson]; exact fX_1
    · rw [eX_cNoPerson]; exact fX_2
    · exact fX_3
    · rw [eX_cNoPerson]; exact fX_4
    · rw [eX_cNoNumber]; exact fX_5
    · rw [eX_cNoPerson, eX_cNoNumber]; exact fX_6
  have ok_law_cells := ok_law_cells (P := l.prog) (w := w) (base := base) A_law_cells B
  have ok_law_box := ok_law_box (P := l.prog) (w := w) (base := base) A_law_box B
  have ok_law_paired := ok_law_paired (P := l.prog) (w := w) (base := base) A_law_paired B
  have ok_law_take := ok_law_take (P := l.prog) (w := w) (base := base) A_law_take B 3
  have ok_law_strewn := ok_law_strewn (P := l.prog) (w := w) (base := base) A_law_strewn A_law_take ok_law_take B
  have ok_law_random := ok_law_random (P := l.prog) (w := w) (base := base) A_law_random A_law_paired A_law_strewn ok_law_paired ok_law_strewn B
  have ok_law_any_call := ok_law_any_call (P := l.prog) (w := w) (base := base) A_law_any_call A_law_take ok_law_take B
  have ok_law_of := ok_law_of (P := l.prog) (w := w) (base := base) A_law_of A_law_take ok_law_take B
  have ok_law_wrong_call := ok_law_wrong_call (P := l.prog) (w := w) (base := base) A_law_wrong_call A_law_any_call A_law_of A_law_take ok_law_any_call ok_law_of ok_law_take B
  have ok_law_some_calls := ok_law_some_calls (P := l.prog) (w := w) (base := base) A_law_some_calls A_law_of A_law_any_call A_law_take ok_law_of ok_law_any_call ok_law_take B
  have ok_look_person := ok_look_person (P := l.prog) (w := w) (base := base) A_look_person B
  have okx_look_person := okx_look_person (P := l.prog) (w := w) (base := base) (cl := cl) A_look_person XB B
  have ok_look_call := ok_look_call (P := l.prog) (w := w) (base := base) A_look_call A_look_person ok_look_person B
  have okx_look_call := okx_look_call (P := l.prog) (w := w) (base := base) (cl := cl) A_look_call A_look_person ok_look_person okx_look_person XB B
  have ok_after_call := ok_after_call (P := l.prog) (w := w) (base := base) A_after_call B
  have ok_called := ok_called (P := l.prog) (w := w) (base := base) A_called A_look_call A_after_call ok_look_call ok_after_call B
  have okx_called := okx_called (P := l.prog) (w := w) (base := base) (cl := cl) A_called A_look_call A_after_call ok_look_call ok_after_call okx_look_call XB B
  have ok_people_of := ok_people_of (P := l.prog) (w := w) (base := base) A_people_of B
  have ok_with_joins := ok_with_joins (P := l.prog) (w := w) (base := base) A_with_joins B
  have ok_added := ok_added (P := l.prog) (w := w) (base := base) A_added A_people_of A_with_joins ok_people_of ok_with_joins B
  have ok_with_call := ok_with_call (P := l.prog) (w := w) (base := base) A_with_call A_look_call A_added A_people_of ok_look_call ok_added ok_people_of B
  have okx_with_call := okx_with_call (P := l.prog) (w := w) (base := base) (cl := cl) A_with_call A_look_call A_added A_people_of ok_look_call ok_added ok_people_of okx_look_call XB B
  have ok_look_word := ok_look_word (P := l.prog) (w := w) (base := base) A_look_word A_look_call ok_look_call B
  have okx_look_word := okx_look_word (P := l.prog) (w := w) (base := base) (cl := cl) A_look_word A_look_call ok_look_call okx_look_call XB B
  have ok_empty_sheet := ok_empty_sheet (P := l.prog) (w := w) (base := base) A_empty_sheet B
  have ok_sheet_of := ok_sheet_of (P := l.prog) (w := w) (base := base) A_sheet_of A_look_word A_empty_sheet A_added ok_look_word ok_empty_sheet ok_added B
  have okx_sheet_of := okx_sheet_of (P := l.prog) (w := w) (base := base) (cl := cl) A_sheet_of A_look_word A_empty_sheet A_added ok_look_word ok_empty_sheet ok_added okx_look_word XB B
  have ok_law_sheet_of := ok_law_sheet_of (P := l.prog) (w := w) (base := base) A_law_sheet_of B
  have ok_pairings_along := ok_pairings_along (P := l.prog) (w := w) (base := base) A_pairings_along A_look_word A_after_call ok_look_word ok_after_call B
  have okx_pairings_along := okx_pairings_along (P := l.prog) (w := w) (base := base) (cl := cl) A_pairings_along A_look_word A_after_call ok_look_word ok_after_call okx_look_word XB B
  have ok_called_all := ok_called_all (P := l.prog) (w := w) (base := base) A_called_all A_pairings_along ok_pairings_along B
  have okx_called_all := okx_called_all (P := l.prog) (w := w) (base := base) (cl := cl) A_called_all A_pairings_along ok_pairings_along okx_pairings_along XB B
  have ok_idle_calls := ok_idle_calls (P := l.prog) (w := w) (base := base) A_idle_calls A_pairings_along ok_pairings_along B
  have okx_idle_calls := okx_idle_calls (P := l.prog) (w := w) (base := base) (cl := cl) A_idle_calls A_pairings_along ok_pairings_along okx_pairings_along XB B
  have ok_law_asked := ok_law_asked (P := l.prog) (w := w) (base := base) A_law_asked A_called A_with_call A_sheet_of A_law_sheet_of A_called_all A_pairings_along A_idle_calls ok_called ok_with_call ok_sheet_of ok_law_sheet_of ok_called_all ok_pairings_along ok_idle_calls B
  have okx_law_asked := okx_law_asked (P := l.prog) (w := w) (base := base) (cl := cl) A_law_asked A_called A_with_call A_sheet_of A_law_sheet_of A_called_all A_pairings_along A_idle_calls ok_called ok_with_call ok_sheet_of ok_law_sheet_of ok_called_all ok_pairings_along ok_idle_calls okx_called okx_idle_calls okx_pairings_along okx_called_all okx_with_call okx_sheet_of XB B
  have ok_law_refused := ok_law_refused (P := l.prog) (w := w) (base := base) A_law_refused A_law_asked ok_law_asked okx_law_asked XB B
  have ok_law_same := ok_law_same (P := l.prog) (w := w) (base := base) A_law_same B 5
  have ok_law_right := ok_law_right (P := l.prog) (w := w) (base := base) A_law_right A_law_random A_law_wrong_call A_law_take A_law_some_calls A_law_refused A_law_same A_law_any_call ok_law_random ok_law_wrong_call ok_law_take ok_law_some_calls ok_law_refused ok_law_same ok_law_any_call XB B
  exact ok_law A_law A_law_cells A_law_box A_law_right ok_law_cells ok_law_box ok_law_right XB B
end
end Lw
open PySem PySem.W PyProof.Rows
set_option maxRecDepth 100000 in
set_option maxHeartbeats 0 in
theorem PySem.Challenge.cw_partnercall_k05_people_who_are_not_there_holds : PySem.Challenge.rw_partnercall_k05_people_who_are_not_there.Holds := by
  w_on; o_law; k_head; (case hw => w_witness2)
  k_fill
  refine DL.walkDX (x := "_law_script") (nms := ["NoPerson", "NoNumber", "NotShortest", "OtherSize"]) (l := PySem.Challenge.rw_partnercall_k05_people_who_are_not_there) (F := K05.F_law) (k := 11) rfl rfl ⟨rfl, by decide, by decide⟩ (fun w h Y => PySem.W.kIn_of Y) ?zzN K05.law_ok ?zzF
  case zzN => intro w; kernel_rfl
  case zzF =>
    intro w mg fa h KX G hmg
    refine' Lw.all_mk KX G hmg ?a_law_cells ?l_law_cells ?e_law_cells ?k_law_cells ?a_law_box ?l_law_box ?e_law_box ?k_law_box ?a_law_paired ?l_law_paired ?e_law_paired ?k_law_paired ?a_law_take ?l_law_take ?e_law_take ?k_law_take ?a_law_strewn ?l_law_strewn ?e_law_strewn ?k_law_strewn ?a_law_random ?l_law_random ?e_law_random ?k_law_random ?a_law_any_call ?l_law_any_call ?e_law_any_call ?k_law_any_call ?a_law_of ?l_law_of ?e_law_of ?k_law_of ?a_law_wrong_call ?l_law_wrong_call ?e_law_wrong_call ?k_law_wrong_call ?a_law_some_calls ?l_law_some_calls ?e_law_some_calls ?k_law_some_calls ?a_look_person ?l_look_person ?e_look_person ?k_look_person ?a_look_call ?l_look_call ?e_look_call ?k_look_call ?a_after_call ?l_after_call ?e_after_call ?k_after_call ?a_called ?l_called ?e_called ?k_called ?a_people_of ?l_people_of ?e_people_of ?k_people_of ?a_with_joins ?l_with_joins ?e_with_joins ?k_with_joins ?a_added ?l_added ?e_added ?k_added ?a_with_call ?l_with_call ?e_with_call ?k_with_call ?a_look_word ?l_look_word ?e_look_word ?k_look_word ?a_empty_sheet ?l_empty_sheet ?e_empty_sheet ?k_empty_sheet ?a_sheet_of ?l_sheet_of ?e_sheet_of ?k_sheet_of ?a_law_sheet_of ?l_law_sheet_of ?e_law_sheet_of ?k_law_sheet_of ?a_pairings_along ?l_pairings_along ?e_pairings_along ?k_pairings_along ?a_called_all ?l_called_all ?e_called_all ?k_called_all ?a_idle_calls ?l_idle_calls ?e_idle_calls ?k_idle_calls ?a_law_asked ?l_law_asked ?e_law_asked ?k_law_asked ?a_law_refused ?l_law_refused ?e_law_refused ?k_law_refused ?a_law_same ?l_law_same ?e_law_same ?k_law_same ?a_law_right ?l_law_right ?e_law_right ?k_law_right ?a_law ?l_law ?e_law ?k_law ?aX_NoPerson ?aX_NoNumber ?aX_NotShortest ?aX_OtherSize ?iX_NoPerson ?lX_NoPerson ?eX_NoPerson ?kX_NoPerson ?tX_NoPerson ?bX_NoPerson ?noX_NoPerson ?vX_LookupError ?fX_0 ?fX_1 ?fX_2 ?fX_3 ?fX_4 ?fX_5 ?fX_6 ?ndX ?z_IndexError ?z_KeyError ?z_LookupError ?z_ValueError ?z_abs ?z_all ?z_bool ?z_enumerate ?z_int ?z_isinstance ?z_len ?z_list ?z_max ?z_range ?z_str ?z_tuple ?z_zip
    (case a_law_cells => k_is); (case l_law_cells => k_is); (case e_law_cells => k_is); (case k_law_cells => k_is); (case a_law_box => k_is); (case l_law_box => k_is)
    (case e_law_box => k_is); (case k_law_box => k_is); (case a_law_paired => k_is); (case l_law_paired => k_is); (case e_law_paired => k_is); (case k_law_paired => k_is)
    (case a_law_take => k_is); (case l_law_take => k_is); (case e_law_take => k_is); (case k_law_take => k_is); (case a_law_strewn => k_is); (case l_law_strewn => k_is)
    (case e_law_strewn => k_is); (case k_law_strewn => k_is); (case a_law_random => k_is); (case l_law_random => k_is); (case e_law_random => k_is); (case k_law_random => k_is)
    (case a_law_any_call => k_is); (case l_law_any_call => k_is); (case e_law_any_call => k_is); (case k_law_any_call => k_is); (case a_law_of => k_is); (case l_law_of => k_is)
    (case e_law_of => k_is); (case k_law_of => k_is); (case a_law_wrong_call => k_is); (case l_law_wrong_call => k_is); (case e_law_wrong_call => k_is); (case k_law_wrong_call => k_is)
    (case a_law_some_calls => k_is); (case l_law_some_calls => k_is); (case e_law_some_calls => k_is); (case k_law_some_calls => k_is); (case a_look_person => k_is); (case l_look_person => k_is)
    (case e_look_person => k_is); (case k_look_person => k_is); (case a_look_call => k_is); (case l_look_call => k_is); (case e_look_call => k_is); (case k_look_call => k_is)
    (case a_after_call => k_is); (case l_after_call => k_is); (case e_after_call => k_is); (case k_after_call => k_is); (case a_called => k_is); (case l_called => k_is)
    (case e_called => k_is); (case k_called => k_is); (case a_people_of => k_is); (case l_people_of => k_is); (case e_people_of => k_is); (case k_people_of => k_is)
    (case a_with_joins => k_is); (case l_with_joins => k_is); (case e_with_joins => k_is); (case k_with_joins => k_is); (case a_added => k_is); (case l_added => k_is)
    (case e_added => k_is); (case k_added => k_is); (case a_with_call => k_is); (case l_with_call => k_is); (case e_with_call => k_is); (case k_with_call => k_is)
    (case a_look_word => k_is); (case l_look_word => k_is); (case e_look_word => k_is); (case k_look_word => k_is); (case a_empty_sheet => k_is); (case l_empty_sheet => k_is)
    (case e_empty_sheet => k_is); (case k_empty_sheet => k_is); (case a_sheet_of => k_is); (case l_sheet_of => k_is); (case e_sheet_of => k_is); (case k_sheet_of => k_is)
    (case a_law_sheet_of => k_is); (case l_law_sheet_of => k_is); (case e_law_sheet_of => k_is); (case k_law_sheet_of => k_is); (case a_pairings_along => k_is); (case l_pairings_along => k_is)
    (case e_pairings_along => k_is); (case k_pairings_along => k_is); (case a_called_all => k_is); (case l_called_all => k_is); (case e_called_all => k_is); (case k_called_all => k_is)
    (case a_idle_calls => k_is); (case l_idle_calls => k_is); (case e_idle_calls => k_is); (case k_idle_calls => k_is); (case a_law_asked => k_is); (case l_law_asked => k_is)
    (case e_law_asked => k_is); (case k_law_asked => k_is); (case a_law_refused => k_is); (case l_law_refused => k_is); (case e_law_refused => k_is); (case k_law_refused => k_is)
    (case a_law_same => k_is); (case l_law_same => k_is); (case e_law_same => k_is); (case k_law_same => k_is); (case a_law_right => k_is); (case l_law_right => k_is)
    (case e_law_right => k_is); (case k_law_right => k_is); (case a_law => k_is); (case l_law => k_is); (case e_law => k_is); (case k_law => k_is)
    (case aX_NoPerson => k_is); (case aX_NoNumber => k_is); (case aX_NotShortest => k_is); (case aX_OtherSize => k_is); (case iX_NoPerson => k_is); (case lX_NoPerson => k_is)
    (case eX_NoPerson => k_is); (case kX_NoPerson => k_is); (case tX_NoPerson => k_is); (case bX_NoPerson => kernel_rfl); (case noX_NoPerson => k_is); (case vX_LookupError => k_is)
    (case fX_0 => kernel_rfl); (case fX_1 => kernel_rfl); (case fX_2 => kernel_rfl); (case fX_3 => kernel_rfl); (case fX_4 => kernel_rfl); (case fX_5 => kernel_rfl)
    (case fX_6 => kernel_rfl); (case ndX => kernel_rfl); (case z_IndexError => k_is); (case z_KeyError => k_is); (case z_LookupError => k_is); (case z_ValueError => k_is)
    (case z_abs => k_is); (case z_all => k_is); (case z_bool => k_is); (case z_enumerate => k_is); (case z_int => k_is); (case z_isinstance => k_is)
    (case z_len => k_is); (case z_list => k_is); (case z_max => k_is); (case z_range => k_is); (case z_str => k_is); (case z_tuple => k_is)
    (case z_zip => k_is)
