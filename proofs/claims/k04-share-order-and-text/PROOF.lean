import PyProof.Rows.All
import Wide.All
import OpenK.AllK
import Wide.FinOn
import HandS.Base
import HandS.Call
import HandS.Dict
import HandS.Iter
import HandS.Comp
import HandS.DictComp
import HandS.IsInst
import KE.KDictKeyed
import KE.KeyNested
import KE.KDictWalk
import HandS.ForMost
import HandS.ForExc
import HandS.Wide
import HandS.Defaults
import HandS.MakeKwOnly
import HandS.CallSlots
import HandS.TupAny
import HandS.Rev
import HandS.Zip
import HandS.ExcSuper
import HandS.ExcInit
import HandS.TryOnly
import HandS.TryMany
import HandS.Lambda
import KE.KExcSuper
import KE.KSuper
import HandS.ExcField
import HandS.ExcIs
import HandS.More
import HandS.Conv
import HandS.Gcd
import HandS.Deep
import PyProof.ReprReads
import PyProof.ReprRoads
import HandS.RaiseMore
import PyProof.Draws
import PyProof.TupleIter
import PyProof.EnumMake
import HandS.MakeKw
import KE.KIsAll
import KE.KEqNest
import KE.KOpsOwn
import HandS.RevRange
import KE.KDictList
import KE.KDictCopyH
import PyProof.DictTruth
import HandS.Records
import HandS.Style
import HandS.Nested
import KE.KNestM
import HandS.NoneIn
import KE.KDictOf
import HandS.Text
import HandS.FStr
import HandS.Steps
import HandS.OwnEq
import KE.KCallOwn
import KE.OsRun
import KE.OsRunLaw
import PySem.Challenge.RW_labelgaps_k04_share_order_and_text
import KE.KExcLine
set_option Elab.async false
set_option linter.all false
set_option maxRecDepth 100000
set_option maxHeartbeats 2000000
set_option autoImplicit false
namespace DL
open PySem L2 PySem.Spec PyProof.Rows
mutual
def nh : NestedKey → Int
  | .none => reduceHash 0xFCA86420
  | .num i => hashInt i
  | .text _ => 0
  | .tup ks => reduceHash (Builtin.Tuple.tupleHashOf (nhs ks))
def nhs : List NestedKey → List Int
  | [] => []
  | k :: ks => nh k :: nhs ks
end
mutual
def noT : NestedKey → Bool
  | .none => true
  | .num _ => true
  | .text _ => false
  | .tup ks => noTs ks
def noTs : List NestedKey → Bool
  | [] => true
  | k :: ks => noT k && noTs ks
end
abbrev NEnt := NestedKey × Addr × Value
def ent (x : NEnt) : DictEntry := ⟨nh x.1, .ref x.2.1, x.2.2⟩
def okK (k : NestedKey) : Bool := noT k && decide (k.depth ≤ 8)
structure DOb (o : Obj) (xs : List NEnt) : Prop where
  ex : o.ExactDict
  dat : ∃ es ep, o.data = .dict es ep ∧ es.toList = xs.map ent
  nod : (xs.map (·.1)).Nodup
  ok : ∀ x ∈ xs, okK x.1 = true
  len : xs.length ≤ sizeLine
def exO (a : Addr) (o : Obj) : HO := .ext fun h => h.get? a = some o
section
variable {X : Cx} {pins : List (Addr × Obj)} {σ : L2.St} {H : Hp} {s : Shared}
theorem exO_get {a : Addr} {o : Obj} (I : Inv X pins σ H s) (h : H a = some (exO a o)) : s.heap.get? a = some o := (I.hok a _ h).1
end
end DL
namespace DL
open PySem L2 PySem.Spec PyProof.Rows
inductive TyY (K : PySem.W.Frag) (H : Hp) : V → Value → Prop where
  | x {v : V} {t : Value} (h : TyX K H v t) : TyY K H v t
  | ex {a : Addr} {o : Obj} (e : H a = some (exO a o)) (c : o.cls = .type "dict") : TyY K H (.ref a) (.type "dict")
theorem kit_ofY {X : Cx} {pins : List (Addr × Obj)} {σ : L2.St} {H : Hp} {s : Shared} {x : V} {u t : Value} (I : Inv X pins σ H s) (rx : RelV x u) (ty : TyY X.K H x t) : ∃ P : Heap → Prop, PySem.W.KitX X.K u t P ∧ P s.heap ∧ u ≠ .builtin "__main__.__loader__#opaque" := by
  cases ty with
  | x h => exact kit_of I rx h
  | @ex a o e c =>
    cases (show u = Value.ref a from rx)
    exact ⟨_, PySem.W.kitx_dict, ⟨o, exO_get I e, c⟩, fun z => nomatch z⟩
def rIsiA (K : PySem.W.Frag) : List V → Hp → VK → Prop := fun xs H Q => ∃ (x c : V) (t u : Value) (b : Bool), xs = [x, c] ∧ ClsV c u ∧ TyY K H x t ∧ PySem.W.kitOne K t u = some b ∧ Q (.bl b) H
theorem call_isiA {X : Cx} : CallR X (.builtin "isinstance") (rIsiA X.K) := by
  intro pins s σ H xs us Q I r h
  obtain ⟨x, c, t, u, b, rfl, k, ty, e, q⟩ := h
  obtain ⟨u1, u2, rfl, r1, r2⟩ := vals2 r
  have e2 := k.eq r2
  subst e2
  obtain ⟨P, Z, p, hx⟩ := kit_ofY I r1 ty
  exact PySem.W.kia_one Z I.kIn p e hx fun tk => ⟨.bl b, H, I.tok tk, rfl, q⟩
end DL
namespace DL
open PySem L2
structure LamR where
  qual : Str
  params : Arguments
  body : Expr
  scope : Scope
  fr : List Str
structure Kp where
  c : Nat → Addr
  lam : Nat → Option LamR
  tab : List (Addr × Str)
instance : CoeFun Kp (fun _ => Nat → Addr) := ⟨Kp.c⟩
def ObjX (a : Addr) (o : Obj) : HO := .ext fun h => h.get? a = some o
inductive Ty where
  | b (T : String) | o (c : Nat)
inductive D where
  | non | bl (b : Bool) | int (i : Int) | str (s : Str)
  | tup (xs : List D) | lst (xs : List D)
  | scr (xs : List D)
  | dk (kvs : List (Key × D))
  | dn (kvs : List (D × D))
  | obj (c : Nat) (fs : List (Str × D))
  | cls (t : Ty)
  | fn (j : Nat) (ds : List D)
  | any
mutual
def keyD : D → Option NestedKey
  | .non => some .none
  | .bl b => some (.num (if b = true then 1 else 0))
  | .int i => some (.num i)
  | .tup ds => (keyDs ds).map .tup
  | _ => none
def keyDs : List D → Option (List NestedKey)
  | [] => some []
  | d :: ds => (keyD d).bind fun k => (keyDs ds).map fun ks => k :: ks
end
def keyN (d : D) : Option NestedKey := match d with
  | .tup ds => (keyDs ds).bind fun ks => if okK (.tup ks) = true then some (.tup ks) else none
  | _ => none
def NTF (F : Hp) : Prop := ∀ a ps, F a ≠ some (.tbl ps)
theorem NTF.upd {F : Hp} {p : Addr} {o : HO} (h : NTF F) (ho : ∀ ps, o ≠ .tbl ps) : NTF (upd F p o) := fun a ps e => by
  by_cases q : a = p
  · subst q; rw [upd_same] at e; exact ho ps (Option.some.inj e)
  · rw [upd_ne q] at e; exact h a ps e
def SameT (F F' : Hp) : Prop := ∀ a o, F a = some o → (∀ ps, o ≠ .tbl ps) → F' a = some o
theorem SameT.of {F F' : Hp} (e : Same F F') : SameT F F' := fun a o h _ => e a o h
def CellsX (F : Hp) (cs : List Addr) (vs : List V) : Prop := cs.length = vs.length ∧ ∀ (i : Nat) (c : Addr) (v : V), cs[i]? = some c → vs[i]? = some v → ∃ (o : Obj) (u : Value), F c = some (ObjX c o) ∧ o.data = .cell (some u) ∧ L2.RelV v u
structure LamO (L : LamR) (cs : List Addr) (c' : Addr) (o : Obj) : Prop where
  ex : ∃ (cl : List (Str × Addr)) (pm ctv : Value), o = PySem.W.kla_obj "<lambda>" L.qual L.params L.body L.scope cl pm c' ctv ∧ (∀ y c, cl.lookup y = some c → ∃ i : Nat, L.fr[i]? = some y ∧ cs[i]? = some c) ∧ ∀ (i : Nat) (y : Str), L.fr[i]? = some y → ∃ c, cs[i]? = some c ∧ cl.lookup y = some c
  nd : cs.Nodup
  len : cs.length = L.fr.length
mutual
inductive Rep (K : PySem.W.Frag) (kap : Kp) (F : Hp) : V → D → Prop
  | non : Rep K kap F .non .non
  | bl (b : Bool) : Rep K kap F (.bl b) (.bl b)
  | int (i : Int) : Rep K kap F (.int i) (.int i)
  | str (s : Str) : Rep K kap F (.str s) (.str s)
  | tup {a : Addr} {vs : List V} {ds : List D} : SqT K F a vs → Reps K kap F vs ds → Rep K kap F (.ref a) (.tup ds)
  | lst {a : Addr} {vs : List V} {ds : List D} : F a = some (.lst vs) → Reps K kap F vs ds → Rep K kap F (.ref a) (.lst ds)
  | scr {a : Addr} {vs : List V} {ds : List D} : SqL K F a vs → Reps K kap F vs ds → Rep K kap F (.ref a) (.scr ds)
  | dk {a : Addr} {kvs : List (Key × V)} {ds : List (Key × D)} : F a = some (.dK kvs) → kvs.map (·.1) = ds.map (·.1) → Reps K kap F (kvs.map (·.2)) (ds.map (·.2)) → Rep K kap F (.ref a) (.dk ds)
  | dn {a : Addr} {o : Obj} {xs : List NEnt} {vs : List V} {ds : List (D × D)} : F a = some (exO a o) → DOb o xs → (a == sysModules) = false → Vals vs (xs.map (·.2.2)) → (xs.map fun x => some x.1) = ds.map (fun p => keyN p.1) → Reps K kap F (xs.map fun x => V.ref x.2.1) (ds.map (·.1)) → Reps K kap F vs (ds.map (·.2)) → Rep K kap F (.ref a) (.dn ds)
  | obj {a dx : Addr} {vs : List (Str × V)} {fs : List (Str × D)} {c : Nat} : F a = some (.ins (kap c) dx vs) → vs.map (·.1) = fs.map (·.1) → Reps K kap F (vs.map (·.2)) (fs.map (·.2)) → Rep K kap F (.ref a) (.obj c fs)
  | clsB (T : String) : Rep K kap F (.ty T) (.cls (.b T))
  | clsO (c : Nat) : Rep K kap F (.ref (kap c)) (.cls (.o c))
  | any (a : Addr) : Rep K kap F (.ref a) .any
  | fn {f c' : Addr} {o : Obj} {cs : List Addr} {vs : List V} {ds : List D} {j : Nat} {L : LamR} : kap.lam j = some L → F f = some (ObjX f o) → LamO L cs c' o → CellsX F cs vs → Reps K kap F vs ds → Rep K kap F (.ref f) (.fn j ds)
inductive Reps (K : PySem.W.Frag) (kap : Kp) (F : Hp) : List V → List D → Prop
  | nil : Reps K kap F [] []
  | cons {v : V} {d : D} {vs : List V} {ds : List D} : Rep K kap F v d → Reps K kap F vs ds → Reps K kap F (v :: vs) (d :: ds)
end
theorem sqT_monoT {K : PySem.W.Frag} {F F' : Hp} {a : Addr} {xs : List V} (e : SameT F F') (h : SqT K F a xs) : SqT K F' a xs := by
  rcases h with (h | ⟨o, h⟩) | h
  · exact .inl (.inl (e _ _ h (by simp)))
  · exact .inl (.inr ⟨o, e _ _ h (by simp)⟩)
  · exact .inr h
theorem sqL_monoT {K : PySem.W.Frag} {F F' : Hp} {a : Addr} {xs : List V} (e : SameT F F') (h : SqL K F a xs) : SqL K F' a xs := by
  rcases h with (h | ⟨o, h⟩) | h
  · exact .inl (.inl (e _ _ h (by simp)))
  · exact .inl (.inr ⟨o, e _ _ h (by simp)⟩)
  · exact .inr h
theorem cells_monoT {F F' : Hp} {cs : List Addr} {vs : List V} (e : SameT F F') (h : CellsX F cs vs) : CellsX F' cs vs := ⟨h.1, fun i c v a b => let ⟨o, u, g1, g2, g3⟩ := h.2 i c v a b; ⟨o, u, e _ _ g1 (fun ps z => by unfold ObjX at z; cases z), g2, g3⟩⟩
theorem sqT_mono {K : PySem.W.Frag} {F F' : Hp} {a : Addr} {xs : List V} (e : Same F F') (h : SqT K F a xs) : SqT K F' a xs := sqT_monoT (.of e) h
theorem sqL_mono {K : PySem.W.Frag} {F F' : Hp} {a : Addr} {xs : List V} (e : Same F F') (h : SqL K F a xs) : SqL K F' a xs := e.seq h
section
variable {K : PySem.W.Frag} {kap : Kp} {F F' H H' : Hp}
mutual
theorem Rep.monoT (e : SameT F F') : ∀ {v : V} {d : D}, Rep K kap F v d → Rep K kap F' v d
  | _, _, .non => .non
  | _, _, .bl b => .bl b
  | _, _, .int i => .int i
  | _, _, .str s => .str s
  | _, _, .tup h r => .tup (sqT_monoT e h) (Reps.monoT e r)
  | _, _, .lst h r => .lst (e _ _ h (by simp)) (Reps.monoT e r)
  | _, _, .scr h r => .scr (sqL_monoT e h) (Reps.monoT e r)
  | _, _, .dk h n r => .dk (e _ _ h (by simp)) n (Reps.monoT e r)
  | _, _, .dn h d m v n r q => .dn (e _ _ h (by unfold exO; simp)) d m v n (Reps.monoT e r) (Reps.monoT e q)
  | _, _, .obj h n r => .obj (e _ _ h (by simp)) n (Reps.monoT e r)
  | _, _, .clsB T => .clsB T
  | _, _, .clsO c => .clsO c
  | _, _, .any a => .any a
  | _, _, .fn l h o k r => .fn l (e _ _ h (by unfold ObjX; simp)) o (cells_monoT e k) (Reps.monoT e r)
theorem Reps.monoT (e : SameT F F') : ∀ {vs : List V} {ds : List D}, Reps K kap F vs ds → Reps K kap F' vs ds
  | _, _, .nil => .nil
  | _, _, .cons h r => .cons (Rep.monoT e h) (Reps.monoT e r)
end
theorem Rep.mono (e : Same F F') {v : V} {d : D} (h : Rep K kap F v d) : Rep K kap F' v d := h.monoT (.of e)
theorem Reps.mono (e : Same F F') {vs : List V} {ds : List D} (h : Reps K kap F vs ds) : Reps K kap F' vs ds := h.monoT (.of e)
def nT (H : Hp) : Hp := fun a => match H a with
  | some (.tbl _) => none
  | o => o
theorem nT_sub (H : Hp) : Same (nT H) H := fun a o e => by
  unfold nT at e
  split at e
  · cases e
  · exact e
theorem nT_nt (H : Hp) : NTF (nT H) := fun a ps e => by
  unfold nT at e
  split at e
  · cases e
  · rename_i h; exact h ps e
theorem nT_same (H : Hp) : SameT H (nT H) := fun a o e n => by
  unfold nT
  split
  · rename_i ps h; rw [h] at e; cases e; exact absurd rfl (n ps)
  · exact e
theorem Rep.nT {v : V} {d : D} (h : Rep K kap F v d) : Rep K kap (nT F) v d := h.monoT (nT_same F)
theorem Reps.nT {vs : List V} {ds : List D} (h : Reps K kap F vs ds) : Reps K kap (DL.nT F) vs ds := h.monoT (nT_same F)
theorem Reps.length : ∀ {vs : List V} {ds : List D}, Reps K kap F vs ds → vs.length = ds.length
  | _, _, .nil => rfl
  | _, _, .cons _ r => congrArg Nat.succ (Reps.length r)
theorem Reps.get : ∀ {vs : List V} {ds : List D} {i : Nat} {d : D}, Reps K kap F vs ds → ds[i]? = some d → ∃ v, vs[i]? = some v ∧ Rep K kap F v d
  | _, _, _, _, .nil, e => by simp at e
  | _, _, 0, _, .cons h _, e => by simp at e; subst e; exact ⟨_, rfl, h⟩
  | _, _, i + 1, d, .cons _ r, e => by
    obtain ⟨v, h1, h2⟩ := Reps.get (i := i) (d := d) r (by simpa using e)
    exact ⟨v, by simpa using h1, h2⟩
theorem Reps.append : ∀ {vs ws : List V} {ds es : List D}, Reps K kap F vs ds → Reps K kap F ws es → Reps K kap F (vs ++ ws) (ds ++ es)
  | _, _, _, _, .nil, q => q
  | _, _, _, _, .cons h r, q => .cons h (Reps.append r q)
theorem Reps.drop : ∀ {vs : List V} {ds : List D} (n : Nat), Reps K kap F vs ds → Reps K kap F (vs.drop n) (ds.drop n)
  | _, _, 0, r => r
  | _, _, n + 1, .nil => .nil
  | _, _, n + 1, .cons _ r => Reps.drop n r
theorem Reps.take : ∀ {vs : List V} {ds : List D} (n : Nat), Reps K kap F vs ds → Reps K kap F (vs.take n) (ds.take n)
  | _, _, 0, _ => .nil
  | _, _, n + 1, .nil => .nil
  | _, _, n + 1, .cons h r => .cons h (Reps.take n r)
theorem Reps.set {v : V} {d : D} (h : Rep K kap F v d) : ∀ {vs : List V} {ds : List D} (n : Nat), Reps K kap F vs ds → Reps K kap F (vs.set n v) (ds.set n d)
  | _, _, _, .nil => .nil
  | _, _, 0, .cons _ r => .cons h r
  | _, _, n + 1, .cons q r => .cons q (Reps.set h n r)
theorem Reps.ints : ∀ (l : List Int), Reps K kap F (l.map V.int) (l.map D.int)
  | [] => .nil
  | i :: l => .cons (.int i) (Reps.ints l)
theorem field_get : ∀ {vs : List (Str × V)} {fs : List (Str × D)} {f : Str} {d : D}, vs.map (·.1) = fs.map (·.1) → Reps K kap F (vs.map (·.2)) (fs.map (·.2)) → fs.lookup f = some d → ∃ v, vs.lookup f = some v ∧ Rep K kap F v d
  | [], [], f, d, _, _, e => by simp at e
  | [], _ :: _, f, d, n, _, _ => by simp at n
  | _ :: _, [], f, d, n, _, _ => by simp at n
  | (g, v) :: vs, (g', d') :: fs, f, d, n, .cons h r, e => by
    simp only [List.map_cons, List.cons.injEq] at n
    obtain ⟨rfl, n⟩ := n
    by_cases q : f = g
    · subst q
      simp [List.lookup] at e
      subst e
      exact ⟨v, by simp [List.lookup], h⟩
    · have hq : (f == g) = false := by simpa using q
      simp only [List.lookup, hq] at e ⊢
      exact field_get n r e
def putD (f : Str) (v : D) : List (Str × D) → List (Str × D)
  | [] => [(f, v)]
  | (g, x) :: r => if g = f then (g, v) :: r else (g, x) :: putD f v r
theorem put_names (f : Str) (v : V) (d : D) : ∀ {vs : List (Str × V)} {fs : List (Str × D)}, vs.map (·.1) = fs.map (·.1) → (putF f v vs).map (·.1) = (putD f d fs).map (·.1)
  | [], [], _ => rfl
  | [], _ :: _, n => by simp at n
  | _ :: _, [], n => by simp at n
  | (g, x) :: vs, (g', y) :: fs, n => by
    simp only [List.map_cons, List.cons.injEq] at n
    obtain ⟨rfl, n⟩ := n
    unfold putF putD
    split
    · simp [n]
    · simp [put_names f v d n]
theorem put_reps {f : Str} {v : V} {d : D} (h : Rep K kap F v d) : ∀ {vs : List (Str × V)} {fs : List (Str × D)}, vs.map (·.1) = fs.map (·.1) → Reps K kap F (vs.map (·.2)) (fs.map (·.2)) → Reps K kap F ((putF f v vs).map (·.2)) ((putD f d fs).map (·.2))
  | [], [], _, _ => .cons h .nil
  | [], _ :: _, n, _ => by simp at n
  | _ :: _, [], n, _ => by simp at n
  | (g, x) :: vs, (g', y) :: fs, n, .cons q r => by
    simp only [List.map_cons, List.cons.injEq] at n
    obtain ⟨rfl, n⟩ := n
    unfold putF putD
    split
    · exact .cons h r
    · exact .cons q (put_reps h n r)
end
def Own (K : PySem.W.Frag) (kap : Kp) (F H : Hp) (p : Addr) : D → Prop
  | .lst ds => ∃ vs, H p = some (.lst vs) ∧ Reps K kap F vs ds
  | .dk ds => ∃ kvs : List (Key × V), H p = some (.dK kvs) ∧ kvs.map (·.1) = ds.map (·.1) ∧ Reps K kap F (kvs.map (·.2)) (ds.map (·.2))
  | .dn ds => ∃ (o : Obj) (xs : List NEnt) (vs : List V), H p = some (exO p o) ∧ DOb o xs ∧ (p == sysModules) = false ∧ Vals vs (xs.map (·.2.2)) ∧ (xs.map fun x => some x.1) = ds.map (fun p => keyN p.1) ∧ Reps K kap F (xs.map fun x => V.ref x.2.1) (ds.map (·.1)) ∧ Reps K kap F vs (ds.map (·.2))
  | .obj c fs => ∃ dx vs, H p = some (.ins (kap c) dx vs) ∧ vs.map (·.1) = fs.map (·.1) ∧ Reps K kap F (vs.map (·.2)) (fs.map (·.2))
  | _ => False
section
variable {K : PySem.W.Frag} {kap : Kp} {F F' H H' : Hp} {p : Addr} {d : D}
theorem Own.mono (e : Same F F') (hp : H' p = H p) (h : Own K kap F H p d) : Own K kap F' H' p d := by
  cases d with
  | lst ds => obtain ⟨vs, h1, h2⟩ := h; exact ⟨vs, hp.trans h1, h2.mono e⟩
  | dk ds => obtain ⟨vs, h1, h2, h3⟩ := h; exact ⟨vs, hp.trans h1, h2, h3.mono e⟩
  | dn ds => obtain ⟨o, xs, vs, h1, h2, h3, h4, h5, h6, h7⟩ := h; exact ⟨o, xs, vs, hp.trans h1, h2, h3, h4, h5, h6.mono e, h7.mono e⟩
  | obj c fs => obtain ⟨dx, vs, h1, h2, h3⟩ := h; exact ⟨dx, vs, hp.trans h1, h2, h3.mono e⟩
  | _ => exact h.elim
theorem Own.some (h : Own K kap F H p d) : ∃ o, H p = some o := by
  cases d with
  | lst ds => obtain ⟨vs, h1, h2⟩ := h; exact ⟨_, h1⟩
  | dk ds => obtain ⟨vs, h1, h2, h3⟩ := h; exact ⟨_, h1⟩
  | dn ds => obtain ⟨o, xs, vs, h1, _⟩ := h; exact ⟨_, h1⟩
  | obj c fs => obtain ⟨dx, vs, h1, h2, h3⟩ := h; exact ⟨_, h1⟩
  | _ => exact h.elim
theorem Own.rep (e : Same F H) (h : Own K kap F H p d) : Rep K kap H (.ref p) d := by
  cases d with
  | lst ds => obtain ⟨vs, h1, h2⟩ := h; exact .lst h1 (h2.mono e)
  | dk ds => obtain ⟨vs, h1, h2, h3⟩ := h; exact .dk h1 h2 (h3.mono e)
  | dn ds => obtain ⟨o, xs, vs, h1, h2, h3, h4, h5, h6, h7⟩ := h; exact .dn h1 h2 h3 h4 h5 (h6.mono e) (h7.mono e)
  | obj c fs => obtain ⟨dx, vs, h1, h2, h3⟩ := h; exact .obj h1 h2 (h3.mono e)
  | _ => exact h.elim
theorem same_upd {F : Hp} {p : Addr} {o : HO} (h : F p = none) : Same F (upd F p o) := fun b u e => by
  rw [upd_ne (ne_of_none e h)]; exact e
theorem Own.freeze (hp : F p = none) (h : Own K kap F H p d) : ∃ o, H p = Option.some o ∧ Rep K kap (upd F p o) (.ref p) d := by
  cases d with
  | lst ds => obtain ⟨vs, h1, h2⟩ := h; exact ⟨_, h1, .lst upd_same (h2.mono (same_upd hp))⟩
  | dk ds => obtain ⟨vs, h1, h2, h3⟩ := h; exact ⟨_, h1, .dk upd_same h2 (h3.mono (same_upd hp))⟩
  | dn ds => obtain ⟨o, xs, vs, h1, h2, h3, h4, h5, h6, h7⟩ := h; exact ⟨_, h1, .dn upd_same h2 h3 h4 h5 (h6.mono (same_upd hp)) (h7.mono (same_upd hp))⟩
  | obj c fs => obtain ⟨dx, vs, h1, h2, h3⟩ := h; exact ⟨_, h1, .obj upd_same h2 (h3.mono (same_upd hp))⟩
  | _ => exact h.elim
end
theorem Own.notTbl {K : PySem.W.Frag} {kap : Kp} {F H : Hp} {p : Addr} {d : D} (h : Own K kap F H p d) (ps : Array Value) : H p ≠ Option.some (HO.tbl ps) := by
  cases d with
  | lst ds => obtain ⟨vs, h1, h2⟩ := h; rw [h1]; simp
  | dk ds => obtain ⟨vs, h1, h2, h3⟩ := h; rw [h1]; simp
  | dn ds => obtain ⟨o, xs, vs, h1, _⟩ := h; rw [h1]; unfold exO; simp
  | obj c fs => obtain ⟨dx, vs, h1, h2, h3⟩ := h; rw [h1]; simp
  | _ => exact h.elim
theorem heap_at (a : Addr) (o : Obj) (ho : o.isFreed = false) : ∃ h : Heap, h.get? a = some o := by
  have key : ∀ n : Nat, ∃ h : Heap, h.objs.size = n := fun n => by
    induction n with
    | zero => exact ⟨{}, rfl⟩
    | succ n ih =>
      obtain ⟨h, e⟩ := ih
      exact ⟨h.push o, by rw [Heap.size_push, e]⟩
  obtain ⟨h, e⟩ := key a
  refine ⟨h.push o, ?_⟩
  rw [← e]
  exact Heap.get?_push_size h ho
theorem live_dict {o : Obj} (h : ∃ es ep, o.data = .dict es ep) : o.isFreed = false := by
  obtain ⟨es, ep, hd⟩ := h
  obtain ⟨a, b, c, d⟩ := o
  dsimp only at hd
  subst hd
  rfl
theorem Own.notCode {K : PySem.W.Frag} {kap : Kp} {F H : Hp} {p : Addr} {d : D} (h : Own K kap F H p d) (q : Str) : H p ≠ Option.some (LamX.CodeO p q) := by
  cases d with
  | lst ds => obtain ⟨vs, h1, h2⟩ := h; rw [h1]; unfold LamX.CodeO; simp
  | dk ds => obtain ⟨vs, h1, h2, h3⟩ := h; rw [h1]; unfold LamX.CodeO; simp
  | dn ds =>
    obtain ⟨o, xs, vs, h1, h2, _⟩ := h
    rw [h1]
    intro z
    have z := Option.some.inj z
    unfold exO LamX.CodeO at z
    injection z with z
    obtain ⟨es, ep, e5, _⟩ := h2.dat
    obtain ⟨g, hg⟩ := heap_at p o (live_dict ⟨es, ep, e5⟩)
    have e := congrFun z g
    have e2 : ∃ (oc : Obj) (vs : Array Value) (t : Tok), g.get? p = Option.some oc ∧ oc.data = .fields vs ∧ vs[1]? = Option.some (.str q t) := cast e hg
    obtain ⟨oc, ws, t, e3, e4, _⟩ := e2
    rw [hg] at e3
    cases e3
    rw [e4] at e5
    cases e5
  | obj c fs => obtain ⟨dx, vs, h1, h2, h3⟩ := h; rw [h1]; unfold LamX.CodeO; simp
  | _ => exact h.elim
def codeOf (o : Obj) : Option (Addr × Str) := match o.data with
  | .func fd => (match fd.code with
    | .ref c => some (c, fd.qualname)
    | _ => none)
  | _ => none
structure TabsL (T : List (Addr × Str)) (H : Hp) : Prop where
  tabs : LamX.Tabs T H
  code : ∀ a o c q, H a = some (ObjX a o) → codeOf o = some (c, q) → H c = some (LamX.CodeO c q)
  only : ∀ a ps, H a = some (.tbl ps) → ∃ p ∈ T, p.1 = a
def NC (H : Hp) (p : Addr) : Prop := (∀ ps, H p ≠ some (.tbl ps)) ∧ ∀ q, H p ≠ some (LamX.CodeO p q)
theorem NC.none {H : Hp} {p : Addr} (h : H p = .none) : NC H p := ⟨fun ps z => (by rw [h] at z; cases z), fun q z => (by rw [h] at z; cases z)⟩
theorem NC.lst {H : Hp} {p : Addr} {xs : List V} (h : H p = some (.lst xs)) : NC H p := ⟨fun ps z => (by rw [h] at z; cases z), fun q z => (by rw [h] at z; unfold LamX.CodeO at z; cases z)⟩
theorem NC.own {K : PySem.W.Frag} {kap : Kp} {F H : Hp} {p : Addr} {d : D} (h : Own K kap F H p d) : NC H p := ⟨h.notTbl, h.notCode⟩
def NL (o : HO) (a : Addr) : Prop := (∀ ob, o = ObjX a ob → codeOf ob = none) ∧ ∀ ps, o ≠ .tbl ps
theorem NL.ext {o : HO} {a : Addr} (h1 : ∀ φ, o ≠ .ext φ) (h2 : ∀ ps, o ≠ .tbl ps) : NL o a := ⟨fun ob z => by unfold ObjX at z; exact absurd z (h1 _), h2⟩
theorem exO_inj {a : Addr} {o o' : Obj} (h : exO a o = ObjX a o') (hd : ∃ es ep, o.data = .dict es ep) : o' = o := by
  unfold exO ObjX at h
  injection h with h
  obtain ⟨g, hg⟩ := heap_at a o (live_dict hd)
  have e : g.get? a = some o' := cast (congrFun h g) hg
  rw [hg] at e
  exact (Option.some.inj e).symm
theorem NL.dict {a : Addr} {o : Obj} (hd : ∃ es ep, o.data = .dict es ep) : NL (exO a o) a := ⟨fun ob z => by
  rw [exO_inj z hd]
  obtain ⟨es, ep, e⟩ := hd
  unfold codeOf
  rw [e], fun ps z => by unfold exO at z; cases z⟩
theorem Own.nl {K : PySem.W.Frag} {kap : Kp} {F H : Hp} {p : Addr} {d : D} {o : HO} (h : Own K kap F (upd H p o) p d) : NL o p := by
  cases d with
  | lst ds => obtain ⟨vs, h1, h2⟩ := h; rw [upd_same] at h1; cases h1; exact .ext (by simp) (by simp)
  | dk ds => obtain ⟨vs, h1, h2, h3⟩ := h; rw [upd_same] at h1; cases h1; exact .ext (by simp) (by simp)
  | dn ds => obtain ⟨o, xs, vs, h1, h2, _⟩ := h; rw [upd_same] at h1; cases h1; exact .dict (let ⟨es, ep, e, _⟩ := h2.dat; ⟨es, ep, e⟩)
  | obj c fs => obtain ⟨dx, vs, h1, h2, h3⟩ := h; rw [upd_same] at h1; cases h1; exact .ext (by simp) (by simp)
  | _ => exact h.elim
theorem TabsL.upd {T : List (Addr × Str)} {H : Hp} {p : Addr} {o : HO} (t : TabsL T H) (h : NC H p) (n : NL o p) : TabsL T (L2.upd H p o) where
  tabs := fun r hr => by
    obtain ⟨ps, e1, e2, e3⟩ := t.tabs r hr
    refine ⟨ps, by rw [upd_ne fun z => h.1 ps (by rw [← z]; exact e1)]; exact e1, e2, fun pos cv hc => ?_⟩
    obtain ⟨c, g1, g2⟩ := e3 pos cv hc
    exact ⟨c, g1, by rw [upd_ne fun z => h.2 r.2 (by rw [← z]; exact g2)]; exact g2⟩
  code := fun a ob c q e1 e2 => by
    by_cases z : a = p
    · subst z
      rw [upd_same] at e1
      rw [n.1 ob (Option.some.inj e1)] at e2
      cases e2
    · rw [upd_ne z] at e1
      have := t.code a ob c q e1 e2
      rw [upd_ne fun w => h.2 q (by rw [← w]; exact this)]
      exact this
  only := fun a ps e => by
    by_cases z : a = p
    · subst z
      rw [upd_same] at e
      exact absurd (Option.some.inj e) (n.2 ps)
    · rw [upd_ne z] at e
      exact t.only a ps e
theorem Own.tabs {K : PySem.W.Frag} {kap : Kp} {F H : Hp} {p : Addr} {d d' : D} {T : List (Addr × Str)} {o : HO} (h : Own K kap F H p d) (h' : Own K kap F (L2.upd H p o) p d') (t : TabsL T H) : TabsL T (L2.upd H p o) := t.upd (.own h) h'.nl
inductive Sl where
  | no | va (d : D) | ow (d : D) | pn (d : D) | ex (c : Nat) (fs : List (Str × D))
  | cn (d : D) | fl (d : D) (f : Str) | ll (d : D) (g : Nat)
abbrev DEnv := List Sl
def Sl.owd : Sl → Option D
  | .ow d => some d
  | .pn d => some d
  | _ => none
def Sl.ghd : Sl → Option D
  | .fl d _ => some d
  | .ll d _ => some d
  | _ => none
def Sl.hld : Sl → Option D
  | .ow d => some d
  | .pn d => some d
  | .fl d _ => some d
  | .ll d _ => some d
  | _ => none
theorem Sl.hld_of {s : Sl} {d : D} (h : s.owd = some d ∨ s.ghd = some d) : s.hld = some d := by
  cases s <;> rcases h with h | h <;> first | exact h | cases h
theorem Sl.of_hld {s : Sl} {d : D} (h : s.hld = some d) : s.owd = some d ∨ s.ghd = some d := by
  cases s <;> first | exact .inl h | exact .inr h | cases h
def Sl.plain : Sl → Bool
  | .cn _ => false
  | .fl _ _ => false
  | .ll _ _ => false
  | _ => true
theorem Sl.plain_gh {s : Sl} (h : s.plain = true) : s.ghd = none ∧ s.hld = s.owd := by
  cases s <;> first | exact ⟨rfl, rfl⟩ | cases h
def Sl.dat : Sl → Option D
  | .va d => some d
  | .ow d => some d
  | .pn d => some d
  | .cn d => some d
  | _ => none
abbrev Own? := Nat → Option Addr
abbrev Xi := Option ((Addr × Value × Option Addr) ⊕ Addr)
def XR (K : PySem.W.Frag) (kap : Kp) (F : Hp) (d : Option Addr) (fs : List (Str × D)) : Prop := match d with
  | none => fs = []
  | some dd => ∃ vs : List (Str × V), F dd = some (HO.xd vs) ∧ vs.map (·.1) = fs.map (·.1) ∧ Reps K kap F (vs.map (·.2)) (fs.map (·.2))
theorem XR.mono {K : PySem.W.Frag} {kap : Kp} {F F' : Hp} (e : Same F F') {d : Option Addr} {fs : List (Str × D)} (h : XR K kap F d fs) : XR K kap F' d fs := by
  cases d with
  | none => exact h
  | some dd => obtain ⟨vs, h1, h2, h3⟩ := h; exact ⟨vs, e _ _ h1, h2, h3.mono e⟩
def Lnk (xi : Xi) (F H : Hp) (de : DEnv) (O : Own?) (p : Addr) : Sl → Prop
  | .fl _ f => ∃ (me C dx : Addr) (vs : List (Str × V)), xi = some (.inr me) ∧ F me = some (.ins C dx vs) ∧ vs.lookup f = some (.ref p)
  | .ll _ g => ∀ d f, de[g]? = some (Sl.fl d f) → ∃ (q : Addr) (vs : List V), O g = some q ∧ H q = some (.lst (vs ++ [V.ref p]))
  | _ => True
structure RS (K : PySem.W.Frag) (kap : Kp) (xi : Xi) (F H : Hp) (sg : St) (de : DEnv) (O : Own?) : Prop where
  len : sg.length = de.length
  va : ∀ (i : Nat) (d : D), de[i]? = some (Sl.va d) → ∃ v, sg[i]? = some (some v) ∧ Rep K kap F v d
  ow : ∀ (i : Nat) (s : Sl) (d : D), de[i]? = some s → s.owd = some d → ∃ p, O i = some p ∧ sg[i]? = some (some (V.ref p)) ∧ F p = none ∧ Own K kap F H p d
  ex : ∀ (i : Nat) (c : Nat) (fs : List (Str × D)), de[i]? = some (Sl.ex c fs) → ∃ (a : Addr) (d : Option Addr), xi = some (.inl (a, Value.ref (kap c), d)) ∧ sg[i]? = some (some (V.ref a)) ∧ XR K kap F d fs
  onl : ∀ (i : Nat) (p : Addr), O i = some p → ∃ (s : Sl) (d : D), de[i]? = some s ∧ s.hld = some d
  inj : ∀ i j p, O i = some p → O j = some p → i = j
  sub : Same F H
  nt : NTF F
  tab : TabsL kap.tab H
  cn : ∀ (i : Nat) (d : D), de[i]? = some (Sl.cn d) → ∃ me, xi = some (.inr me) ∧ sg[i]? = some (some (V.ref me)) ∧ Rep K kap F (.ref me) d
  gh : ∀ (i : Nat) (s : Sl) (d : D), de[i]? = some s → s.ghd = some d → ∃ p, O i = some p ∧ F p = none ∧ Own K kap F H p d ∧ Lnk xi F H de O p s
structure Go (F H : Hp) (de : DEnv) (O : Own?) (F' H' : Hp) (de' : DEnv) (O' : Own?) : Prop where
  ex : Same F F'
  keep : ∀ a o, H a = some o → (∀ ps, o ≠ .tbl ps) → (∀ i, O i ≠ some a) → H' a = some o
  new : ∀ i a, O' i = some a → (∃ j, O j = some a) ∨ H a = none
  dom : ∀ a, H' a = none → H a = none
  fnew : ∀ a, F' a ≠ none → F a ≠ none ∨ H a = none ∨ ∃ i, O i = some a
  pin : ∀ (i : Nat) (d' : D), de'[i]? = some (Sl.pn d') → O' i = O i ∧ ∃ d, de[i]? = some (Sl.pn d)
theorem Go.refl {F H : Hp} {de : DEnv} {O : Own?} : Go F H de O F H de O :=
  ⟨Same.refl F, fun _ _ h _ _ => h, fun i a h => .inl ⟨i, h⟩, fun _ h => h, fun _ h => .inl h, fun _ d h => ⟨rfl, d, h⟩⟩
theorem Go.trans {F H F1 H1 F2 H2 : Hp} {de de1 de2 : DEnv} {O O1 O2 : Own?} (a : Go F H de O F1 H1 de1 O1) (b : Go F1 H1 de1 O1 F2 H2 de2 O2) : Go F H de O F2 H2 de2 O2 where
  ex := a.ex.trans b.ex
  keep := fun x o h t n => b.keep x o (a.keep x o h t n) t fun i e => by
    rcases a.new i x e with ⟨j, q⟩ | q
    · exact n j q
    · rw [h] at q; cases q
  new := fun i x e => by
    rcases b.new i x e with ⟨j, q⟩ | q
    · exact a.new j x q
    · exact .inr (a.dom x q)
  dom := fun x e => a.dom x (b.dom x e)
  fnew := fun x e => by
    rcases b.fnew x e with q | q | ⟨i, q⟩
    · exact a.fnew x q
    · exact .inr (.inl (a.dom x q))
    · rcases a.new i x q with q | q
      · exact .inr (.inr q)
      · exact .inr (.inl q)
  pin := fun i d e => by
    obtain ⟨e1, d1, q1⟩ := b.pin i d e
    obtain ⟨e2, d2, q2⟩ := a.pin i d1 q1
    exact ⟨e1.trans e2, d2, q2⟩
structure New (T : List (Addr × Str)) (F H F' H' : Hp) : Prop where
  f : Same F F'
  h : SameT H H'
  fnew : ∀ a, F' a ≠ none → F a ≠ none ∨ H a = none
  dom : ∀ a, H' a = none → H a = none
  tab : TabsL T H → TabsL T H'
  nt : NTF F → NTF F'
theorem Lnk.mono {xi : Xi} {F F' H H' : Hp} {de de' : DEnv} {O O' : Own?} {p : Addr} {s : Sl} (h : Lnk xi F H de O p s) (e : Same F F') (k : ∀ g d f q, de[g]? = some (Sl.fl d f) → O g = some q → ∀ u, H q = some u → (∀ ps, u ≠ .tbl ps) → H' q = some u)
    (hd : ∀ g d f, de'[g]? = some (Sl.fl d f) → de[g]? = some (Sl.fl d f) ∧ O' g = O g := by exact fun _ _ _ h => ⟨h, rfl⟩) : Lnk xi F' H' de' O' p s := by
  cases s with
  | fl d f => obtain ⟨me, C, dx, vs, h1, h2, h3⟩ := h; exact ⟨me, C, dx, vs, h1, e _ _ h2, h3⟩
  | ll d g =>
    intro d' f' h'
    obtain ⟨e1, e2⟩ := hd g d' f' h'
    obtain ⟨q, vs, h1, h2⟩ := h d' f' e1
    exact ⟨q, vs, e2.trans h1, k g d' f' q e1 h1 _ h2 (by simp)⟩
  | _ => trivial
section
variable {T : List (Addr × Str)}
theorem New.refl {F H : Hp} : New T F H F H := ⟨Same.refl F, fun _ _ h _ => h, fun _ h => .inl h, fun _ h => h, fun h => h, fun h => h⟩
theorem New.trans {F H F1 H1 F2 H2 : Hp} (a : New T F H F1 H1) (b : New T F1 H1 F2 H2) : New T F H F2 H2 :=
  ⟨a.f.trans b.f, fun x o h n => b.h x o (a.h x o h n) n, fun x e => by
    rcases b.fnew x e with q | q
    · exact a.fnew x q
    · exact .inr (a.dom x q), fun x h => a.dom x (b.dom x h), fun h => b.tab (a.tab h), fun h => b.nt (a.nt h)⟩
theorem New.ofSame {F H F' H' : Hp} (f : Same F F') (h : Same H H') (fnew : ∀ a, F' a ≠ none → F a ≠ none ∨ H a = none) (tab : TabsL T H → TabsL T H') (nt : NTF F → NTF F') : New T F H F' H' :=
  ⟨f, .of h, fnew, fun _ e => h.free e, tab, nt⟩
theorem New.one {F H : Hp} {p : Addr} {o : HO} (sub : Same F H) (h : H p = none) (ho : NL o p := by exact .ext (by simp) (by simp)) : New T F H (upd F p o) (upd H p o) ∧ Same (upd F p o) (upd H p o) := by
  have hf : F p = none := sub.free h
  refine ⟨.ofSame (same_upd hf) (same_upd h) (fun a e => ?_) (fun t => t.upd (.none h) ho) fun n => n.upd ho.2, fun a u e => ?_⟩
  · by_cases q : a = p
    · subst q; exact .inr h
    · rw [upd_ne q] at e; exact .inl e
  · by_cases q : a = p
    · subst q; rw [upd_same] at e ⊢; exact e
    · rw [upd_ne q] at e ⊢; exact sub a u e
theorem New.free {F H F' H' : Hp} (n : New T F H F' H') {p : Addr} (hf : F p = none) (hh : H p ≠ none) : F' p = none := by
  cases e : F' p with
  | none => rfl
  | some o =>
    rcases n.fnew p (by rw [e]; simp) with q | q
    · exact absurd hf q
    · exact absurd q hh
end
theorem RS.new {K : PySem.W.Frag} {kap : Kp} {xi : Xi} {F H F' H' : Hp} {sg : St} {de : DEnv} {O : Own?} (R : RS K kap xi F H sg de O) (n : New kap.tab F H F' H') (sub : Same F' H') : RS K kap xi F' H' sg de O where
  len := R.len
  va := fun i d e => by
    obtain ⟨v, h1, h2⟩ := R.va i d e
    exact ⟨v, h1, h2.mono n.f⟩
  ow := fun i s d e h => by
    obtain ⟨p, h1, h2, h3, h4⟩ := R.ow i s d e h
    obtain ⟨o, ho⟩ := h4.some
    exact ⟨p, h1, h2, n.free h3 (by rw [ho]; simp), h4.mono n.f (by rw [ho, n.h p o ho fun ps z => h4.notTbl ps (by rw [ho, z])])⟩
  ex := fun i c fs e => by
    obtain ⟨a, d, h1, h2, h3⟩ := R.ex i c fs e
    exact ⟨a, d, h1, h2, h3.mono n.f⟩
  onl := R.onl
  inj := R.inj
  sub := sub
  nt := n.nt R.nt
  tab := n.tab R.tab
  cn := fun i d e => by
    obtain ⟨me, h1, h2, h3⟩ := R.cn i d e
    exact ⟨me, h1, h2, h3.mono n.f⟩
  gh := fun i s d e h => by
    obtain ⟨p, h1, h3, h4, h5⟩ := R.gh i s d e h
    obtain ⟨o, ho⟩ := h4.some
    exact ⟨p, h1, n.free h3 (by rw [ho]; simp), h4.mono n.f (by rw [ho, n.h p o ho fun ps z => h4.notTbl ps (by rw [ho, z])]), h5.mono n.f fun g d f q _ hq u hu nu => n.h q u hu nu⟩
structure NX (kap : Kp) (F H : Hp) : Prop where
  nt : NTF F
  tab : TabsL kap.tab H
theorem RS.nx {K : PySem.W.Frag} {kap : Kp} {xi : Xi} {F H : Hp} {sg : St} {de : DEnv} {O : Own?} (R : RS K kap xi F H sg de O) : NX kap F H := ⟨R.nt, R.tab⟩
theorem RS.ghs {K : PySem.W.Frag} {kap : Kp} {xi : Xi} {F H F' H' : Hp} {sg : St} {de de' : DEnv} {O O' : Own?} (R : RS K kap xi F H sg de O) (e : Same F F') (hF : ∀ i s d p, de[i]? = some s → s.ghd = some d → O i = some p → F' p = none ∧ H' p = H p)
    (hde : ∀ i s d, de'[i]? = some s → s.ghd = some d → de[i]? = some s ∧ O' i = O i) : ∀ (i : Nat) (s : Sl) (d : D), de'[i]? = some s → s.ghd = some d → ∃ p, O' i = some p ∧ F' p = none ∧ Own K kap F' H' p d ∧ Lnk xi F' H' de' O' p s := by
  intro i s d h1 h2
  obtain ⟨g1, g2⟩ := hde i s d h1 h2
  obtain ⟨p, q1, q2, q3, q4⟩ := R.gh i s d g1 h2
  obtain ⟨f1, f2⟩ := hF i s d p g1 h2 q1
  refine ⟨p, g2.trans q1, f1, q3.mono e f2, q4.mono e (fun g d f q hg hq u hu _ => ?_) fun g d f hg => hde g _ d hg rfl⟩
  rw [(hF g _ d q hg rfl hq).2]
  exact hu
theorem New.go {F H F' H' : Hp} {de : DEnv} {O : Own?} {T : List (Addr × Str)} (n : New T F H F' H') : Go F H de O F' H' de O where
  ex := n.f
  keep := fun a o h t _ => n.h a o h t
  new := fun i a h => .inl ⟨i, h⟩
  dom := n.dom
  fnew := fun a h => (n.fnew a h).elim .inl fun q => .inr (.inl q)
  pin := fun _ d h => ⟨rfl, d, h⟩
theorem RS.freeze {K : PySem.W.Frag} {kap : Kp} {xi : Xi} {F H : Hp} {sg : St} {de : DEnv} {O : Own?} {i : Nat} {d : D} (R : RS K kap xi F H sg de O) (hi : de[i]? = some (Sl.ow d)) :
    ∃ F' O' v, RS K kap xi F' H sg (de.set i (Sl.va d)) O' ∧ Go F H de O F' H (de.set i (Sl.va d)) O' ∧ sg[i]? = some (some v) ∧ Rep K kap F' v d := by
  obtain ⟨p, hO, hs, hf, hw⟩ := R.ow i _ d hi rfl
  obtain ⟨o, ho, hr⟩ := hw.freeze hf
  have il : i < de.length := (List.getElem?_eq_some_iff.mp hi).1
  have e1 : Same F (upd F p o) := same_upd hf
  have get : ∀ (j : Nat) (s : Sl), (de.set i (Sl.va d))[j]? = some s → (j = i ∧ s = .va d) ∨ (j ≠ i ∧ de[j]? = some s) := fun j s e => by
    by_cases q : j = i
    · subst q
      rw [List.getElem?_set_self il] at e
      cases e
      exact .inl ⟨rfl, rfl⟩
    · rw [List.getElem?_set_ne (Ne.symm q)] at e
      exact .inr ⟨q, e⟩
  refine ⟨upd F p o, fun j => if j = i then none else O j, .ref p, ⟨by rw [List.length_set]; exact R.len, fun j e h => ?_, fun j s e h1 h2 => ?_, fun j c fs h => ?_, fun j q h => ?_, fun j k q h1 h2 => ?_, fun a u h => ?_, R.nt.upd fun ps z => hw.notTbl ps (by rw [ho, z]), R.tab, fun j e h => ?_, fun j s e h1 h2 => ?_⟩, ⟨e1, fun _ _ h _ _ => h, fun j a h => ?_, fun _ h => h, fun a h => ?_, fun j e h => ?_⟩, hs, hr⟩
  · rcases get j _ h with ⟨rfl, q⟩ | ⟨q, h⟩
    · cases q
      exact ⟨_, hs, hr⟩
    · obtain ⟨v, h1, h2⟩ := R.va j e h
      exact ⟨v, h1, h2.mono e1⟩
  · rcases get j _ h1 with ⟨rfl, q⟩ | ⟨q, h1⟩
    · subst q; cases h2
    · obtain ⟨p', g1, g2, g3, g4⟩ := R.ow j s e h1 h2
      refine ⟨p', by simp [q, g1], g2, ?_, g4.mono e1 rfl⟩
      have : p' ≠ p := fun z => q (R.inj j i p (by rw [g1, z]) hO)
      rw [upd_ne this]; exact g3
  · rcases get j _ h with ⟨rfl, q⟩ | ⟨q, h⟩
    · cases q
    · obtain ⟨a, d, h1, h2, h3⟩ := R.ex j c fs h
      exact ⟨a, d, h1, h2, h3.mono e1⟩
  · by_cases z : j = i
    · simp [z] at h
    · simp only [z, if_false] at h
      obtain ⟨s, e, h1, h2⟩ := R.onl j q h
      exact ⟨s, e, by rw [List.getElem?_set_ne (Ne.symm z)]; exact h1, h2⟩
  · by_cases z : j = i
    · simp [z] at h1
    · by_cases z2 : k = i
      · simp [z2] at h2
      · simp only [z, z2, if_false] at h1 h2
        exact R.inj j k q h1 h2
  · by_cases z : a = p
    · subst z; rw [upd_same] at h; cases h; exact ho
    · rw [upd_ne z] at h; exact R.sub a u h
  · rcases get j _ h with ⟨rfl, q⟩ | ⟨q, h⟩
    · cases q
    · obtain ⟨me, h1, h2, h3⟩ := R.cn j e h
      exact ⟨me, h1, h2, h3.mono e1⟩
  · rcases get j _ h1 with ⟨rfl, q⟩ | ⟨q, h1⟩
    · subst q; cases h2
    · obtain ⟨p', g1, g3, g4, g5⟩ := R.gh j s e h1 h2
      refine ⟨p', by simp [q, g1], ?_, g4.mono e1 rfl, g5.mono e1 (fun _ _ _ _ _ _ _ h _ => h) fun g d f hg => ?_⟩
      · have : p' ≠ p := fun z => q (R.inj j i p (by rw [g1, z]) hO)
        rw [upd_ne this]; exact g3
      · rcases get g _ hg with ⟨_, z⟩ | ⟨z, hg⟩
        · cases z
        · exact ⟨hg, by simp [z]⟩
  · by_cases z : j = i
    · simp [z] at h
    · simp only [z, if_false] at h
      exact .inl ⟨j, h⟩
  · by_cases z : a = p
    · subst z; exact .inr (.inr ⟨i, hO⟩)
    · rw [upd_ne z] at h; exact .inl h
  · rcases get j _ h with ⟨rfl, q⟩ | ⟨q, h⟩
    · cases q
    · exact ⟨by simp [q], e, h⟩
inductive Rs (α : Type) where
  | ok (a : α) (de : DEnv) | ex (c : Nat) (fs : List (Str × D)) (de : DEnv) | bad
def Rs.bind {α β : Type} : Rs α → (α → DEnv → Rs β) → Rs β
  | .ok a de, f => f a de
  | .ex c fs de, _ => .ex c fs de
  | .bad, _ => .bad
inductive Ot where
  | nx (de : DEnv) | ret (d : D) (de : DEnv) | retF (d : D) (de : DEnv) | brk (de : DEnv) | ct (de : DEnv) | ex (c : Nat) (fs : List (Str × D)) (de : DEnv) | bad
def Rs.out {α : Type} : Rs α → (α → DEnv → Ot) → Ot
  | .ok a de, f => f a de
  | .ex c fs de, _ => .ex c fs de
  | .bad, _ => .bad
def Ot.andThen : Ot → (DEnv → Ot) → Ot
  | .nx de, f => f de
  | o, _ => o
structure Rel (β α : Type) where
  rel : St → Hp → Hp → Own? → β → α → Prop
  org : β → Addr → Prop := fun _ _ => False
section
variable (K : PySem.W.Frag) (kap : Kp)
def PX (xi : Xi) (F H : Hp) (de : DEnv) (O : Own?) (W : WX) (c : Nat) (fs : List (Str × D)) (de' : DEnv) : Prop :=
  ∀ F' H' sg' O' d, RS K kap xi F' H' sg' de' O' → Go F H de O F' H' de' O' → XR K kap F' d fs → W (.ref (kap c)) d sg' H'
def PE1 {α β : Type} (Rl : Rel β α) (xi : Xi) (F H : Hp) (sg : St) (de : DEnv) (O : Own?) (W : WX) (Q : β → Hp → Prop) : Rs α → Prop
  | .ok a de' => ∀ v F' H' O', RS K kap xi F' H' sg de' O' → Go F H de O F' H' de' O' → Rl.rel sg F' H' O' v a → (∀ p, Rl.org v p → H p = none ∨ ∃ i, O i = some p) → Q v H'
  | .ex c fs de' => PX K kap xi F H de O W c fs de'
  | .bad => False
def Frs (F H : Hp) (O : Own?) (v : V) (d : D) : Prop := ∃ p, v = .ref p ∧ F p = none ∧ Own K kap F H p d ∧ ∀ i, O i ≠ some p
def PS1 (xi : Xi) (F H : Hp) (de : DEnv) (O : Own?) (W : WX) (Dn : Ends) : Ot → Prop
  | .nx de' => ∀ F' H' sg' O', RS K kap xi F' H' sg' de' O' → Go F H de O F' H' de' O' → Dn.nx sg' H'
  | .ret d de' => ∀ v F' H' sg' O', RS K kap xi F' H' sg' de' O' → Go F H de O F' H' de' O' → Rep K kap F' v d → Dn.rt v H'
  | .retF d de' => ∀ v F' H' sg' O', RS K kap xi F' H' sg' de' O' → Go F H de O F' H' de' O' → Frs K kap F' H' O' v d → (∀ p, v = .ref p → H p = none ∨ ∃ i, O i = some p) → Dn.rt v H'
  | .brk de' => ∀ F' H' sg' O', RS K kap xi F' H' sg' de' O' → Go F H de O F' H' de' O' → Dn.bk sg' H'
  | .ct de' => ∀ F' H' sg' O', RS K kap xi F' H' sg' de' O' → Go F H de O F' H' de' O' → Dn.ct sg' H'
  | .ex c fs de' => PX K kap xi F H de O W c fs de'
  | .bad => False
end
section
variable {K : PySem.W.Frag} {kap : Kp} {xi : Xi} {F H F1 H1 : Hp} {sg : St} {de de1 : DEnv} {O O1 : Own?} {W : WX}
theorem PX.shift {c : Nat} {fs : List (Str × D)} {de' : DEnv} (g : Go F H de O F1 H1 de1 O1) (h : PX K kap xi F H de O W c fs de') : PX K kap xi F1 H1 de1 O1 W c fs de' :=
  fun F' H' sg' O' d R' g' r => h F' H' sg' O' d R' (g.trans g') r
theorem PE1.shift {α β : Type} {Rl : Rel β α} {Q : β → Hp → Prop} {r : Rs α} (g : Go F H de O F1 H1 de1 O1) (h : PE1 K kap Rl xi F H sg de O W Q r) : PE1 K kap Rl xi F1 H1 sg de1 O1 W Q r := by
  cases r with
  | ok a de' => exact fun v F' H' O' R' g' q n => h v F' H' O' R' (g.trans g') q fun p e => (n p e).elim (fun q => .inl (g.dom _ q)) fun ⟨i, q⟩ => (g.new i p q).symm
  | ex c fs de' => exact PX.shift g h
  | bad => exact h
theorem PS1.shift {Dn : Ends} {o : Ot} (g : Go F H de O F1 H1 de1 O1) (h : PS1 K kap xi F H de O W Dn o) : PS1 K kap xi F1 H1 de1 O1 W Dn o := by
  cases o with
  | nx de' => exact fun F' H' sg' O' R' g' => h F' H' sg' O' R' (g.trans g')
  | ret d de' => exact fun v F' H' sg' O' R' g' r => h v F' H' sg' O' R' (g.trans g') r
  | retF d de' => exact fun v F' H' sg' O' R' g' r n => h v F' H' sg' O' R' (g.trans g') r fun p e => (n p e).elim (fun q => .inl (g.dom _ q)) fun ⟨i, q⟩ => (g.new i p q).symm
  | brk de' => exact fun F' H' sg' O' R' g' => h F' H' sg' O' R' (g.trans g')
  | ct de' => exact fun F' H' sg' O' R' g' => h F' H' sg' O' R' (g.trans g')
  | ex c fs de' => exact PX.shift g h
  | bad => exact h
end
section
variable (K : PySem.W.Frag) (kap : Kp) (xi : Xi)
def Snd {α β : Type} (Rl : Rel β α) (t : WX → St → Hp → (β → Hp → Prop) → Prop) (ev : DEnv → Rs α) : Prop :=
  ∀ W F H sg de O Q, RS K kap xi F H sg de O → PE1 K kap Rl xi F H sg de O W Q (ev de) → t W sg H Q
def RlE : Rel V D := { rel := fun _ F _ _ v d => Rep K kap F v d }
def RlA : Rel (List V) (List D) := { rel := fun _ F _ _ v d => Reps K kap F v d }
def RlF : Rel V D := { rel := fun _ F H O v d => Frs K kap F H O v d, org := fun v p => v = .ref p }
def RlQ (α : Type) : Rel α α := { rel := fun _ _ _ _ b c => b = c }
abbrev RlB : Rel Bool Bool := RlQ Bool
def SndS (t : WX → TS) (ev : DEnv → Ot) : Prop :=
  ∀ W F H sg de O Dn, RS K kap xi F H sg de O → PS1 K kap xi F H de O W Dn (ev de) → t W Dn sg H
end
section
variable {K : PySem.W.Frag} {kap : Kp} {xi : Xi} {F H : Hp} {sg : St} {de : DEnv} {O : Own?} {W : WX}
theorem Snd.bind {α β γ δ : Type} {Ra : Rel β α} {Rl : Rel δ γ} {t : WX → St → Hp → (β → Hp → Prop) → Prop} {ev : DEnv → Rs α} {g : α → DEnv → Rs γ} {Q : δ → Hp → Prop} {k : β → Hp → Prop}
    (h : Snd K kap xi Ra t ev) (R : RS K kap xi F H sg de O) (hp : PE1 K kap Rl xi F H sg de O W Q ((ev de).bind g))
    (hk : ∀ v a F1 H1 de1 O1, RS K kap xi F1 H1 sg de1 O1 → Go F H de O F1 H1 de1 O1 → Ra.rel sg F1 H1 O1 v a → (∀ p, Ra.org v p → H p = none ∨ ∃ i, O i = some p) → PE1 K kap Rl xi F1 H1 sg de1 O1 W Q (g a de1) → k v H1) : t W sg H k := by
  refine h W F H sg de O k R ?_
  cases e : ev de with
  | ok a de1 =>
    rw [e] at hp
    exact fun v F1 H1 O1 R1 g1 r1 n1 => hk v a F1 H1 de1 O1 R1 g1 r1 n1 (hp.shift g1)
  | ex c fs de1 => rw [e] at hp; exact hp
  | bad => rw [e] at hp; exact hp
theorem Snd.out {α β : Type} {Ra : Rel β α} {t : WX → St → Hp → (β → Hp → Prop) → Prop} {ev : DEnv → Rs α} {g : α → DEnv → Ot} {Dn : Ends} {k : β → Hp → Prop}
    (h : Snd K kap xi Ra t ev) (R : RS K kap xi F H sg de O) (hp : PS1 K kap xi F H de O W Dn ((ev de).out g))
    (hk : ∀ v a F1 H1 de1 O1, RS K kap xi F1 H1 sg de1 O1 → Go F H de O F1 H1 de1 O1 → Ra.rel sg F1 H1 O1 v a → (∀ p, Ra.org v p → H p = none ∨ ∃ i, O i = some p) → PS1 K kap xi F1 H1 de1 O1 W Dn (g a de1) → k v H1) : t W sg H k := by
  refine h W F H sg de O k R ?_
  cases e : ev de with
  | ok a de1 =>
    rw [e] at hp
    exact fun v F1 H1 O1 R1 g1 r1 n1 => hk v a F1 H1 de1 O1 R1 g1 r1 n1 (hp.shift g1)
  | ex c fs de1 => rw [e] at hp; exact hp
  | bad => rw [e] at hp; exact hp
theorem PE1.done {α β : Type} {Rl : Rel β α} {Q : β → Hp → Prop} {a : α} {v : β} {F' H' : Hp} (R : RS K kap xi F H sg de O) (hp : PE1 K kap Rl xi F H sg de O W Q (.ok a de)) (n : New kap.tab F H F' H') (sub : Same F' H') (r : Rl.rel sg F' H' O v a) (o : ∀ p, Rl.org v p → H p = none := by exact fun _ h => h.elim) : Q v H' :=
  hp v F' H' O (R.new n sub) n.go r fun p h => .inl (o p h)
end
end DL
namespace DL
open PySem L2
def RB (K : PySem.W.Frag) (kap : Kp) (F H : Hp) (v : V) (d : D) : Prop := Rep K kap F v d ∨ ∃ p, v = .ref p ∧ F p = none ∧ Own K kap F H p d
theorem RB.rep {K : PySem.W.Frag} {kap : Kp} {F H : Hp} {v : V} {d : D} (e : Same F H) (h : RB K kap F H v d) : Rep K kap H v d := by
  rcases h with h | ⟨p, rfl, _, h⟩
  · exact h.mono e
  · exact h.rep e
theorem RB.int {K : PySem.W.Frag} {kap : Kp} {F H : Hp} {v : V} {i : Int} (h : RB K kap F H v (.int i)) : v = .int i := by
  rcases h with h | ⟨p, rfl, _, h⟩
  · cases h; rfl
  · exact h.elim
theorem RB.lst {K : PySem.W.Frag} {kap : Kp} {F H : Hp} {v : V} {ds : List D} (e : Same F H) (h : RB K kap F H v (.lst ds)) : ∃ a vs, v = .ref a ∧ H a = some (.lst vs) ∧ Reps K kap F vs ds := by
  rcases h with h | ⟨p, rfl, _, vs, h1, h2⟩
  · cases h with
    | lst h r => exact ⟨_, _, rfl, e _ _ h, r⟩
  · exact ⟨p, vs, rfl, h1, h2⟩
theorem RB.scr {K : PySem.W.Frag} {kap : Kp} {F H : Hp} {v : V} {ds : List D} (h : RB K kap F H v (.scr ds)) : ∃ a vs, v = .ref a ∧ SqL K F a vs ∧ Reps K kap F vs ds := by
  rcases h with h | ⟨p, rfl, _, h⟩
  · cases h with
    | scr h r => exact ⟨_, _, rfl, h, r⟩
  · exact h.elim
theorem RB.str {K : PySem.W.Frag} {kap : Kp} {F H : Hp} {v : V} {i : Str} (h : RB K kap F H v (.str i)) : v = .str i := by
  rcases h with h | ⟨p, rfl, _, h⟩
  · cases h; rfl
  · exact h.elim
theorem RB.bl {K : PySem.W.Frag} {kap : Kp} {F H : Hp} {v : V} {i : Bool} (h : RB K kap F H v (.bl i)) : v = .bl i := by
  rcases h with h | ⟨p, rfl, _, h⟩
  · cases h; rfl
  · exact h.elim
theorem RB.non {K : PySem.W.Frag} {kap : Kp} {F H : Hp} {v : V} (h : RB K kap F H v .non) : v = .non := by
  rcases h with h | ⟨p, rfl, _, h⟩
  · cases h; rfl
  · exact h.elim
theorem RB.dk {K : PySem.W.Frag} {kap : Kp} {F H : Hp} {v : V} {ds : List (Key × D)} (e : Same F H) (h : RB K kap F H v (.dk ds)) : ∃ (a : Addr) (kvs : List (Key × V)), v = .ref a ∧ H a = some (.dK kvs) ∧ kvs.map (·.1) = ds.map (·.1) ∧ Reps K kap F (kvs.map (·.2)) (ds.map (·.2)) := by
  rcases h with h | ⟨p, rfl, _, kvs, h1, h2, h3⟩
  · cases h with
    | dk h n r => exact ⟨_, _, rfl, e _ _ h, n, r⟩
  · exact ⟨p, kvs, rfl, h1, h2, h3⟩
theorem RB.dn {K : PySem.W.Frag} {kap : Kp} {F H : Hp} {v : V} {ds : List (D × D)} (e : Same F H) (h : RB K kap F H v (.dn ds)) : ∃ (a : Addr) (o : Obj) (xs : List NEnt) (vs : List V), v = .ref a ∧ H a = some (exO a o) ∧ DOb o xs ∧ (a == sysModules) = false ∧ Vals vs (xs.map (·.2.2)) ∧ (xs.map fun x => some x.1) = ds.map (fun p => keyN p.1) ∧ Reps K kap F (xs.map fun x => V.ref x.2.1) (ds.map (·.1)) ∧ Reps K kap F vs (ds.map (·.2)) := by
  rcases h with h | ⟨p, rfl, _, o, xs, vs, h1, h2⟩
  · cases h with
    | dn h h1 h2 h3 h4 h5 h6 => exact ⟨_, _, _, _, rfl, e _ _ h, h1, h2, h3, h4, h5, h6⟩
  · exact ⟨p, o, xs, vs, rfl, h1, h2⟩
theorem RB.tup {K : PySem.W.Frag} {kap : Kp} {F H : Hp} {v : V} {ds : List D} (h : RB K kap F H v (.tup ds)) : ∃ a vs, v = .ref a ∧ SqT K F a vs ∧ Reps K kap F vs ds := by
  rcases h with h | ⟨p, rfl, _, h⟩
  · cases h with
    | tup h r => exact ⟨_, _, rfl, h, r⟩
  · exact h.elim
theorem RB.obj {K : PySem.W.Frag} {kap : Kp} {F H : Hp} {v : V} {c : Nat} {fs : List (Str × D)} (e : Same F H) (h : RB K kap F H v (.obj c fs)) :
    ∃ a dx vs, v = .ref a ∧ H a = some (.ins (kap c) dx vs) ∧ vs.map (·.1) = fs.map (·.1) ∧ Reps K kap F (vs.map (·.2)) (fs.map (·.2)) := by
  rcases h with h | ⟨p, rfl, _, dx, vs, h1, h2, h3⟩
  · cases h with
    | obj h n r => exact ⟨_, _, _, rfl, e _ _ h, n, r⟩
  · exact ⟨p, dx, vs, rfl, h1, h2, h3⟩
inductive Op where
  | e (ev : DEnv → Rs D) | s (i : Nat)
def slotAt (i : Nat) (de : DEnv) : Option D := (de[i]?).bind Sl.dat
def slotRun (i : Nat) (de : DEnv) : Rs (DEnv → Option D) :=
  match slotAt i de with
  | some _ => .ok (slotAt i) de
  | none => .bad
def Op.run : Op → DEnv → Rs (DEnv → Option D)
  | .e ev, de => (ev de).bind fun d de' => .ok (fun _ => some d) de'
  | .s i, de => slotRun i de
def runs : List Op → DEnv → Rs (List (DEnv → Option D))
  | [], de => .ok [] de
  | o :: r, de => (o.run de).bind fun f de' => (runs r de').bind fun fs de'' => .ok (f :: fs) de''
def reads (fs : List (DEnv → Option D)) (de : DEnv) : Option (List D) := fs.foldr (fun f acc => (f de).bind fun d => acc.map fun ds => d :: ds) (some [])
theorem reads_cons (f : DEnv → Option D) (fs : List (DEnv → Option D)) (de : DEnv) : reads (f :: fs) de = (f de).bind fun d => (reads fs de).map fun ds => d :: ds := rfl
def RlO (K : PySem.W.Frag) (kap : Kp) : Rel V (DEnv → Option D) where
  rel := fun sg F _ _ v f => ∀ xi F2 H2 de2 O2, RS K kap xi F2 H2 sg de2 O2 → Same F F2 → ∀ d, f de2 = some d → RB K kap F2 H2 v d
def RlOs (K : PySem.W.Frag) (kap : Kp) : Rel (List V) (List (DEnv → Option D)) where
  rel := fun sg F _ _ vs fs => ∀ xi F2 H2 de2 O2, RS K kap xi F2 H2 sg de2 O2 → Same F F2 → ∀ ds, reads fs de2 = some ds → Paired (RB K kap F2 H2) vs ds
section
variable (kap : Kp) (xi : Xi) (X : Cx) (W : WX)
structure JE (e : Expr) (t : WX → TE) (ev : DEnv → Rs D) : Prop where
  p : PE X e (t W)
  s : Snd X.K kap xi (RlE X.K kap) t ev
structure JF (e : Expr) (t : WX → TE) (ev : DEnv → Rs D) : Prop where
  p : PE X e (t W)
  s : Snd X.K kap xi (RlF X.K kap) t ev
structure JT (e : Expr) (t : WX → TT) (ev : DEnv → Rs Bool) : Prop where
  p : PT X e (t W)
  s : Snd X.K kap xi RlB t ev
structure JO (e : Expr) (t : WX → TE) (o : Op) : Prop where
  p : PE X e (t W)
  s : Snd X.K kap xi (RlO X.K kap) t o.run
structure JOs (es : List Expr) (t : WX → TA) (os : List Op) : Prop where
  p : PA X es (t W)
  s : Snd X.K kap xi (RlOs X.K kap) t (runs os)
structure JA (es : List Expr) (t : WX → TA) (ev : DEnv → Rs (List D)) : Prop where
  p : PA X es (t W)
  s : Snd X.K kap xi (RlA X.K kap) t ev
structure JS (st : Stmt) (t : WX → TS) (ev : DEnv → Ot) : Prop where
  p : PS X st (t W)
  s : SndS X.K kap xi t ev
structure JSs (sts : List Stmt) (t : WX → TS) (ev : DEnv → Ot) : Prop where
  p : PSs X sts (t W)
  s : SndS X.K kap xi t ev
end
section
variable {K : PySem.W.Frag} {kap : Kp} {xi : Xi} {F H : Hp} {sg : St} {de : DEnv} {O : Own?}
theorem RS.held (R : RS K kap xi F H sg de O) {i : Nat} {p : Addr} (e : O i = some p) : F p = none ∧ ∃ o, H p = some o := by
  obtain ⟨s, d, h1, h2⟩ := R.onl i p e
  rcases s.of_hld h2 with h2 | h2
  · obtain ⟨q, g1, _, g3, g4⟩ := R.ow i s d h1 h2
    rw [e] at g1
    cases g1
    exact ⟨g3, g4.some⟩
  · obtain ⟨q, g1, g3, g4, _⟩ := R.gh i s d h1 h2
    rw [e] at g1
    cases g1
    exact ⟨g3, g4.some⟩
theorem RS.heldOwn (R : RS K kap xi F H sg de O) {i : Nat} {p : Addr} (e : O i = some p) : ∃ d, Own K kap F H p d := by
  obtain ⟨s, d, h1, h2⟩ := R.onl i p e
  rcases s.of_hld h2 with h2 | h2
  · obtain ⟨q, g1, _, g3, g4⟩ := R.ow i s d h1 h2
    rw [e] at g1
    cases g1
    exact ⟨d, g4⟩
  · obtain ⟨q, g1, g3, g4, _⟩ := R.gh i s d h1 h2
    rw [e] at g1
    cases g1
    exact ⟨d, g4⟩
theorem RS.nofresh (R : RS K kap xi F H sg de O) {p : Addr} (h : H p = none) : ∀ i, O i ≠ some p := fun i e => by
  obtain ⟨g1, o, ho⟩ := R.held e
  rw [h] at ho
  cases ho
theorem RS.rb (R : RS K kap xi F H sg de O) {i : Nat} {d : D} (h : slotAt i de = some d) : ∃ v, sg[i]? = some (some v) ∧ RB K kap F H v d := by
  unfold slotAt at h
  cases e : de[i]? with
  | none => rw [e] at h; cases h
  | some s =>
    rw [e] at h
    cases s with
    | va d' => cases h; obtain ⟨v, h1, h2⟩ := R.va i _ e; exact ⟨v, h1, .inl h2⟩
    | ow d' => cases h; obtain ⟨p, h1, h2, h3, h4⟩ := R.ow i _ _ e rfl; exact ⟨_, h2, .inr ⟨p, rfl, h3, h4⟩⟩
    | pn d' => cases h; obtain ⟨p, h1, h2, h3, h4⟩ := R.ow i _ _ e rfl; exact ⟨_, h2, .inr ⟨p, rfl, h3, h4⟩⟩
    | no => cases h
    | ex c fs => cases h
    | cn d' => cases h; obtain ⟨me, h1, h2, h3⟩ := R.cn i _ e; exact ⟨_, h2, .inl h3⟩
    | fl d f => cases h
    | ll d g => cases h
end
def vVar (i : Nat) (de : DEnv) : Rs D :=
  match de[i]? with
  | some (.va d) => .ok d de
  | some (.ow d) => .ok d (de.set i (.va d))
  | some (.cn d) => .ok d de
  | _ => .bad
def vC (d : D) (de : DEnv) : Rs D := .ok d de
section
variable {kap : Kp} {xi : Xi} {X : Cx} {W : WX} {K : PySem.W.Frag}
theorem snd_var (i : Nat) : Snd K kap xi (RlE K kap) (fun _ => tVar i) (vVar i) := by
  intro W F H sg de O Q R hp
  unfold vVar at hp
  split at hp
  · rename_i d e
    obtain ⟨v, h1, h2⟩ := R.va i d e
    exact ⟨v, h1, hp.done R New.refl R.sub h2⟩
  · rename_i d e
    obtain ⟨F', O', v, R', g, h1, h2⟩ := R.freeze e
    exact ⟨v, h1, hp v F' H O' R' g h2 fun _ z => z.elim⟩
  · rename_i d e
    obtain ⟨me, h1, h2, h3⟩ := R.cn i d e
    exact ⟨_, h2, hp.done R New.refl R.sub h3⟩
  · exact hp.elim
theorem jVar (i : Nat) {x : Str} {pos : Pos} (hN : X.N[i]? = some x := by rfl) (hv : Vis X.env.scope x := by first | exact Or.inl rfl | exact Or.inr (Or.inl rfl) | exact Or.inr (Or.inr rfl)) (hd : (x == ("__debug__" : Str)) = false := by decide)
    (hcd : (x == ("__classdict__" : Str)) = false := by decide) : JE kap xi X W (.Name x pos) (fun _ => tVar i) (vVar i) := ⟨pe_var hN hv hd hcd, snd_var i⟩
theorem snd_c {v : V} {d : D} (r : ∀ F, Rep K kap F v d) : Snd K kap xi (RlE K kap) (fun _ => tC v) (vC d) := by
  intro W F H sg de O Q R hp
  exact hp.done R New.refl R.sub (r F)
theorem jInt {i : Int} {j : Nat} {pos : Pos} : JE kap xi X W (.Constant (.int i) j pos) (fun _ => tC (.int i)) (vC (.int i)) := ⟨pe_int, snd_c fun _ => .int i⟩
theorem jBl {b : Bool} {j : Nat} {pos : Pos} : JE kap xi X W (.Constant (.bool b) j pos) (fun _ => tC (.bl b)) (vC (.bl b)) := ⟨pe_bl, snd_c fun _ => .bl b⟩
theorem jNon {j : Nat} {pos : Pos} : JE kap xi X W (.Constant .none j pos) (fun _ => tC .non) (vC .non) := ⟨pe_non, snd_c fun _ => .non⟩
theorem jStr {x : Str} {j : Nat} {pos : Pos} : JE kap xi X W (.Constant (.str x) j pos) (fun _ => tC (.str x)) (vC (.str x)) := ⟨pe_str, snd_c fun _ => .str x⟩
theorem jCls (c : Nat) {x : Str} {C : Addr} {pos : Pos} (hk : kap c = C) (hm : X.mg x = some (.ref C)) (hg : Gl X x := by rfl) (hd : (x == ("__debug__" : Str)) = false := by decide) : JE kap xi X W (.Name x pos) (fun _ => tC (.ref C)) (vC (.cls (.o c))) := ⟨pe_glob hg hm rfl hd, snd_c fun _ => by rw [← hk]; exact .clsO c⟩
theorem jTy {x : Str} {n : String} {pos : Pos} (hm : X.mg x = none) (hv : bootBuiltins x = some (.type n)) (hg : Gl X x := by rfl) (hn : x ≠ "__name__" := by decide) (hd : (x == ("__debug__" : Str)) = false := by decide) : JE kap xi X W (.Name x pos) (fun _ => tC (.ty n)) (vC (.cls (.b n))) := ⟨pe_bltn hg hm hv rfl hn hd, snd_c fun _ => .clsB n⟩
theorem JE.o {e : Expr} {t : WX → TE} {ev : DEnv → Rs D} (h : JE kap xi X W e t ev) : JO kap xi X W e t (.e ev) := ⟨h.p, by
  intro W F H sg de O Q R hp
  refine h.s.bind R hp fun v d F1 H1 de1 O1 R1 g1 r _ hp => ?_
  exact hp.done R1 New.refl R1.sub fun xi F2 H2 de2 O2 R2 e d' hd => by cases hd; exact .inl (r.mono e)⟩
theorem jSlot (i : Nat) {x : Str} {pos : Pos} (hN : X.N[i]? = some x := by rfl) (hv : Vis X.env.scope x := by first | exact Or.inl rfl | exact Or.inr (Or.inl rfl) | exact Or.inr (Or.inr rfl)) (hd : (x == ("__debug__" : Str)) = false := by decide)
    (hcd : (x == ("__classdict__" : Str)) = false := by decide) : JO kap xi X W (.Name x pos) (fun _ => tVar i) (.s i) := ⟨pe_var hN hv hd hcd, by
  intro W F H sg de O Q R hp
  have hp : PE1 X.K kap (RlO X.K kap) xi F H sg de O W Q (slotRun i de) := hp
  unfold slotRun at hp
  split at hp
  · rename_i d e
    obtain ⟨v, hv, _⟩ := R.rb e
    refine ⟨v, hv, hp.done R New.refl R.sub fun xi F2 H2 de2 O2 R2 e d hd => ?_⟩
    obtain ⟨v', h1, h2⟩ := R2.rb hd
    rw [hv] at h1
    cases h1
    exact h2
  · exact hp.elim⟩
theorem josNil : JOs kap xi X W [] (fun _ => tNil) [] := ⟨pa_nil, fun W F H sg de O Q R hp => hp.done R New.refl R.sub fun _ _ _ _ _ _ _ ds h => by cases h; exact .nil⟩
theorem josCons {e : Expr} {es : List Expr} {t : WX → TE} {o : Op} {ts : WX → TA} {os : List Op} (h : JO kap xi X W e t o) (hr : JOs kap xi X W es ts os) (hs : starEach (e :: es) X.env = (false, eval e X.env) :: starEach es X.env := by rfl) :
    JOs kap xi X W (e :: es) (fun W => tCons (t W) (ts W)) (o :: os) := ⟨pa_cons h.p hr.p hs, by
  intro W F H sg de O Q R hp
  refine h.s.bind R hp fun v f F1 H1 de1 O1 R1 g1 r _ hp => ?_
  refine hr.s.bind R1 hp fun vs fs F2 H2 de2 O2 R2 g2 rs _ hp => ?_
  refine hp.done (v := v :: vs) R2 New.refl R2.sub fun xi F3 H3 de3 O3 R3 e3 ds hd => ?_
  rw [reads_cons] at hd
  cases e1 : f de3 with
  | none => rw [e1] at hd; cases hd
  | some d =>
    cases e2 : reads fs de3 with
    | none => rw [e1, e2] at hd; cases hd
    | some ds' =>
      rw [e1, e2] at hd
      cases hd
      exact .cons (r xi F3 H3 de3 O3 R3 (g2.ex.trans e3) d e1) (rs xi F3 H3 de3 O3 R3 e3 ds' e2)⟩
end
end DL
namespace DL
open PySem L2
section
variable (K : PySem.W.Frag) (kap : Kp)
def SP2 (r : R2) (f : D → D → Option D) : Prop := ∀ F H x y a b z Q, Same F H → NX kap F H → RB K kap F H x a → RB K kap F H y b → f a b = some z → (∀ v F' H', New kap.tab F H F' H' → Same F' H' → Rep K kap F' v z → Q v H') → r x y H Q
def SP1 (r : V → Hp → VK → Prop) (f : D → Option D) : Prop := ∀ F H x a z Q, Same F H → NX kap F H → RB K kap F H x a → f a = some z → (∀ v F' H', New kap.tab F H F' H' → Same F' H' → Rep K kap F' v z → Q v H') → r x H Q
def SPN (r : List V → Hp → VK → Prop) (f : List D → Option D) : Prop := ∀ F H xs as z Q, Same F H → NX kap F H → Paired (RB K kap F H) xs as → f as = some z → (∀ v F' H', New kap.tab F H F' H' → Same F' H' → Rep K kap F' v z → Q v H') → r xs H Q
end
def ofO {α : Type} (o : Option α) (de : DEnv) : Rs α := match o with | some a => .ok a de | none => .bad
def vO2 (f : D → D → Option D) (oa ob : Op) (de : DEnv) : Rs D :=
  (oa.run de).bind fun fa de1 => (ob.run de1).bind fun fb de2 => ofO ((fa de2).bind fun x => (fb de2).bind fun y => f x y) de2
def vO1 (f : D → Option D) (oa : Op) (de : DEnv) : Rs D := (oa.run de).bind fun fa de1 => ofO ((fa de1).bind f) de1
def vON (f : List D → Option D) (os : List Op) (de : DEnv) : Rs D := (runs os de).bind fun fs de1 => ofO ((reads fs de1).bind f) de1
section
variable {K : PySem.W.Frag} {kap : Kp} {xi : Xi} {F H : Hp} {sg : St} {de : DEnv} {O : Own?} {W : WX}
theorem ofO_some {α β : Type} {Rl : Rel β α} {Q : β → Hp → Prop} {o : Option α} (hp : PE1 K kap Rl xi F H sg de O W Q (ofO o de)) : ∃ a, o = some a ∧ PE1 K kap Rl xi F H sg de O W Q (.ok a de) := by
  cases o with
  | none => exact hp.elim
  | some a => exact ⟨a, rfl, hp⟩
theorem bind_some {α β : Type} {o : Option α} {f : α → Option β} {b : β} (h : o.bind f = some b) : ∃ a, o = some a ∧ f a = some b := Option.bind_eq_some_iff.mp h
theorem fresh_new (R : RS K kap xi F H sg de O) {p : Addr} {H' : Hp} {z : D} {T : List (Addr × Str)} (n : New T F H F H') (sub : Same F H') (hp : H p = none) (h : Own K kap F H' p z) : Frs K kap F H' O (.ref p) z :=
  ⟨p, rfl, R.sub.free hp, h, R.nofresh hp⟩
theorem snd_o2 {ta tb : WX → TE} {oa ob : Op} {r : R2} {f : D → D → Option D} (s : SP2 K kap r f) (ha : Snd K kap xi (RlO K kap) ta oa.run) (hb : Snd K kap xi (RlO K kap) tb ob.run) : Snd K kap xi (RlE K kap) (fun W => tOp r (ta W) (tb W)) (vO2 f oa ob) := by
  intro W F H sg de O Q R hp
  refine ha.bind R hp fun x fa F1 H1 de1 O1 R1 g1 ra _ hp => ?_
  refine hb.bind R1 hp fun y fb F2 H2 de2 O2 R2 g2 rb _ hp => ?_
  obtain ⟨z, e, hp⟩ := ofO_some hp
  obtain ⟨a, e1, e⟩ := bind_some e
  obtain ⟨b, e2, e⟩ := bind_some e
  refine s F2 H2 x y a b z Q R2.sub R2.nx (ra xi F2 H2 de2 O2 R2 g2.ex a e1) (rb xi F2 H2 de2 O2 R2 (Same.refl _) b e2) e fun v F' H' n sub r => ?_
  exact hp.done R2 n sub r
theorem snd_o1 {ta : WX → TE} {oa : Op} {r : V → Hp → VK → Prop} {f : D → Option D} (s : SP1 K kap r f) (ha : Snd K kap xi (RlO K kap) ta oa.run) : Snd K kap xi (RlE K kap) (fun W => tUn r (ta W)) (vO1 f oa) := by
  intro W F H sg de O Q R hp
  refine ha.bind R hp fun x fa F1 H1 de1 O1 R1 g1 ra _ hp => ?_
  obtain ⟨z, e, hp⟩ := ofO_some hp
  obtain ⟨a, e1, e⟩ := bind_some e
  refine s F1 H1 x a z Q R1.sub R1.nx (ra xi F1 H1 de1 O1 R1 (Same.refl _) a e1) e fun v F' H' n sub r => ?_
  exact hp.done R1 n sub r
theorem snd_oN {t : WX → TA} {os : List Op} {r : List V → Hp → VK → Prop} {f : List D → Option D} (s : SPN K kap r f) (ha : Snd K kap xi (RlOs K kap) t (runs os)) : Snd K kap xi (RlE K kap) (fun W => tCB r (t W)) (vON f os) := by
  intro W F H sg de O Q R hp
  refine ha.bind R hp fun x fa F1 H1 de1 O1 R1 g1 ra _ hp => ?_
  obtain ⟨z, e, hp⟩ := ofO_some hp
  obtain ⟨a, e1, e⟩ := bind_some e
  refine s F1 H1 x a z Q R1.sub R1.nx (ra xi F1 H1 de1 O1 R1 (Same.refl _) a e1) e fun v F' H' n sub r => ?_
  exact hp.done R1 n sub r
end
section
variable {kap : Kp} {xi : Xi} {X : Cx} {W : WX} {a b : Expr} {ta tb : WX → TE} {oa ob : Op} {pos p : Pos} {r : R2} {f : D → D → Option D}
theorem jOp {op : Operator} (ho : OpR X (binaryOp op) r) (s : SP2 X.K kap r f) (ha : JO kap xi X W a ta oa) (hb : JO kap xi X W b tb ob) : JE kap xi X W (.BinOp a op b pos) (fun W => tOp r (ta W) (tb W)) (vO2 f oa ob) := ⟨pe_op ho ha.p hb.p, snd_o2 s ha.s hb.s⟩
theorem jUn {op : UnaryOp} {r : V → Hp → VK → Prop} {f : D → Option D} (ho : UnR X (unaryOp op) r) (s : SP1 X.K kap r f) (ha : JO kap xi X W a ta oa) : JE kap xi X W (.UnaryOp op a pos) (fun W => tUn r (ta W)) (vO1 f oa) := ⟨pe_un ho ha.p, snd_o1 s ha.s⟩
theorem jCmp {op : CmpOp} (ho : OpR X (compareOp op) r) (s : SP2 X.K kap r f) (ha : JO kap xi X W a ta oa) (hb : JO kap xi X W b tb ob) (hm : behindInMarks op b = false := by first | exact nomark _ | rfl) : JE kap xi X W (.Compare a [op] [b] pos) (fun W => tOp r (ta W) (tb W)) (vO2 f oa ob) := ⟨pe_cmpR ho ha.p hb.p hm, snd_o2 s ha.s hb.s⟩
theorem jIx {r : R2} (hr : IxR X r) (s : SP2 X.K kap r f) (ha : JO kap xi X W a ta oa) (hb : JO kap xi X W b tb ob) (hs : PlainIx b := by exact fun _ _ => rfl) : JE kap xi X W (.Subscript a b pos) (fun W => tOp r (ta W) (tb W)) (vO2 f oa ob) := ⟨pe_ix hr ha.p hb.p hs, snd_o2 s ha.s hb.s⟩
variable {e : Expr} {es : List Expr} {t : WX → TA} {os : List Op} {x : Str} {id T : String} {rN : List V → Hp → VK → Prop} {fN : List D → Option D}
theorem jCB (hc : CallR X (.builtin id) rN) (s : SPN X.K kap rN fN) (hm : X.mg x = none) (hv : bootBuiltins x = some (.builtin id)) (ha : JOs kap xi X W (e :: es) t os) (hg : Gl X x := by rfl) (hn : x ≠ "__name__" := by decide) (hdb : (x == ("__debug__" : Str)) = false := by decide)
    (he : starEach (e :: es) X.env = (false, eval e X.env) :: starEach es X.env := by rfl) (hpl : (backTo pos (starEach es X.env)).any (·.1) = false := by rfl) : JE kap xi X W (.Call (.Name x p) (e :: es) [] pos) (fun W => tCB rN (t W)) (vON fN os) := ⟨pe_callB hc hg hm hv ha.p hn hdb he hpl, snd_oN s ha.s⟩
theorem jCT (hc : CallR X (.type T) rN) (s : SPN X.K kap rN fN) (hm : X.mg x = none) (hv : bootBuiltins x = some (.type T)) (ha : JOs kap xi X W (e :: es) t os) (hg : Gl X x := by rfl) (hn : x ≠ "__name__" := by decide) (hdb : (x == ("__debug__" : Str)) = false := by decide)
    (he : starEach (e :: es) X.env = (false, eval e X.env) :: starEach es X.env := by rfl) (hpl : (backTo pos (starEach es X.env)).any (·.1) = false := by rfl) : JE kap xi X W (.Call (.Name x p) (e :: es) [] pos) (fun W => tCB rN (t W)) (vON fN os) := ⟨pe_callTy hc hg hm hv ha.p hn hdb he hpl, snd_oN s ha.s⟩
end
def fI (g : Int → Int → D) : D → D → Option D
  | .int i, .int j => some (g i j)
  | _, _ => none
def fIC (c : Int → Int → Bool) (g : Int → Int → D) : D → D → Option D
  | .int i, .int j => if c i j then some (g i j) else none
  | _, _ => none
def fU (g : Int → Int) : D → Option D
  | .int i => some (.int (g i))
  | _ => none
section
variable {K : PySem.W.Frag} {kap : Kp} {xi : Xi}
theorem spI {gv : Int → Int → V} {g : Int → Int → D} (hg : ∀ i j F, Rep K kap F (gv i j) (g i j)) : SP2 K kap (rI0 gv) (fI g) := by
  intro F H x y a b z Q sub nt ra rb e q
  unfold fI at e
  split at e
  · cases e
    exact ⟨_, _, ra.int, rb.int, q _ F H New.refl sub (hg _ _ F)⟩
  · cases e
theorem spIC {C : Int → Int → Prop} {c : Int → Int → Bool} {gv : Int → Int → V} {g : Int → Int → D} (hc : ∀ i j, c i j = true → C i j) (hg : ∀ i j F, Rep K kap F (gv i j) (g i j)) : SP2 K kap (rI C gv) (fIC c g) := by
  intro F H x y a b z Q sub nt ra rb e q
  unfold fIC at e
  split at e
  · split at e
    · rename_i hh
      cases e
      exact ⟨_, _, ra.int, rb.int, hc _ _ hh, q _ F H New.refl sub (hg _ _ F)⟩
    · cases e
  · cases e
theorem spU {gv : Int → Int} : SP1 K kap (rU fun i => .int (gv i)) (fU gv) := by
  intro F H x a z Q sub nt ra e q
  unfold fU at e
  split at e
  · cases e
    exact ⟨_, ra.int, q _ F H New.refl sub (.int _)⟩
  · cases e
end
def fSub : D → D → Option D := fI fun i j => .int (i - j)
def cMul (i j : Int) : Bool := decide (i.natAbs < 2 ^ 4000) && decide (j.natAbs < 2 ^ 4000)
def fMul : D → D → Option D := fIC cMul fun i j => .int (i * j)
def cDiv (_ j : Int) : Bool := decide (0 < j) && decide (j.natAbs < 2 ^ 8000)
def fFdiv : D → D → Option D := fIC cDiv fun i j => .int (i / j)
def cMod (_ j : Int) : Bool := decide (0 < j)
def fMod : D → D → Option D := fIC cMod fun i j => .int (i % j)
def cPow (i j : Int) : Bool := decide (0 ≤ j) && decide (j ≤ 1000000) && decide (i.natAbs < 2 ^ 64)
def fPow : D → D → Option D := fIC cPow fun i j => .int (i ^ j.toNat)
def fLt : D → D → Option D := fI fun i j => .bl (decide (i < j))
def fLe : D → D → Option D := fI fun i j => .bl (decide (i ≤ j))
def fGt : D → D → Option D := fI fun i j => .bl (decide (j < i))
def fGe : D → D → Option D := fI fun i j => .bl (decide (j ≤ i))
def fNeg : D → Option D := fU fun i => -i
section
variable {kap : Kp} {xi : Xi} {X : Cx} {W : WX} {a b : Expr} {ta tb : WX → TE} {oa ob : Op} {pos : Pos}
theorem jSub (ha : JO kap xi X W a ta oa) (hb : JO kap xi X W b tb ob) : JE kap xi X W (.BinOp a .Sub b pos) (fun W => tOp (rI0 fun i j => .int (i - j)) (ta W) (tb W)) (vO2 fSub oa ob) := jOp op_sub (spI fun _ _ _ => .int _) ha hb
theorem jMul (ha : JO kap xi X W a ta oa) (hb : JO kap xi X W b tb ob) : JE kap xi X W (.BinOp a .Mult b pos) (fun W => tOp (rI CMulW fun i j => .int (i * j)) (ta W) (tb W)) (vO2 fMul oa ob) := jOp op_mulW (spIC (fun i j h => by
    unfold cMul at h
    rw [Bool.and_eq_true, decide_eq_true_eq, decide_eq_true_eq] at h
    exact wide_mul h.1 h.2 (by decide) (by decide) (by decide)) fun _ _ _ => .int _) ha hb
theorem jFdiv (ha : JO kap xi X W a ta oa) (hb : JO kap xi X W b tb ob) : JE kap xi X W (.BinOp a .FloorDiv b pos) (fun W => tOp (rI CDivW fun i j => .int (i / j)) (ta W) (tb W)) (vO2 fFdiv oa ob) := jOp op_fdivW (spIC (fun i j h => by
    unfold cDiv at h
    rw [Bool.and_eq_true, decide_eq_true_eq, decide_eq_true_eq] at h
    exact wide_div h.1 h.2 (by decide) (by decide)) fun _ _ _ => .int _) ha hb
theorem jMod (ha : JO kap xi X W a ta oa) (hb : JO kap xi X W b tb ob) : JE kap xi X W (.BinOp a .Mod b pos) (fun W => tOp (rI (fun _ j => 0 < j) fun i j => .int (i % j)) (ta W) (tb W)) (vO2 fMod oa ob) := jOp op_mod (spIC (fun i j h => by
    unfold cMod at h
    exact of_decide_eq_true h) fun _ _ _ => .int _) ha hb
theorem jPow (ha : JO kap xi X W a ta oa) (hb : JO kap xi X W b tb ob) : JE kap xi X W (.BinOp a .Pow b pos) (fun W => tOp (rI CPow fun i j => .int (i ^ j.toNat)) (ta W) (tb W)) (vO2 fPow oa ob) := jOp op_pow (spIC (fun i j h => by
    unfold cPow at h
    rw [Bool.and_eq_true, Bool.and_eq_true, decide_eq_true_eq, decide_eq_true_eq, decide_eq_true_eq] at h
    exact ⟨h.1.1, h.1.2, h.2⟩) fun _ _ _ => .int _) ha hb
theorem jNeg (ha : JO kap xi X W a ta oa) : JE kap xi X W (.UnaryOp .USub a pos) (fun W => tUn (rU fun i => .int (-i)) (ta W)) (vO1 fNeg oa) := jUn un_neg spU ha
end
def fAdd : D → D → Option D
  | .int i, .int j => some (.int (i + j))
  | .str x, .str y => if x.length + y.length ≤ 16777216 then some (.str (x ++ y)) else none
  | .tup xs, .tup ys => if xs.length + ys.length ≤ 16777216 then some (.tup (xs ++ ys)) else none
  | .lst xs, .lst ys => if xs.length + ys.length ≤ 16777216 then some (.lst (xs ++ ys)) else none
  | _, _ => none
theorem line_eq : (sizeLine : Nat) = 16777216 := sizeLine_eq
section
variable {K : PySem.W.Frag} {kap : Kp} {xi : Xi}
def rAddA (K : PySem.W.Frag) : R2 := fun x y H Q => rI0 (fun i j => .int (i + j)) x y H Q ∨ (∃ i j, x = .str i ∧ y = .str j ∧ i.length + j.length ≤ sizeLine ∧ Q (.str (i ++ j)) H) ∨ rCatA K x y H Q ∨ rCat x y H Q
theorem op_addA {X : Cx} : OpR X (binaryOp .Add) (rAddA X.K) := op_add.or (op_add_str.or (op_catA.or op_cat))
theorem sp_addA : SP2 K kap (rAddA K) fAdd := by
  intro F H x y a b z Q sub nt ra rb e q
  unfold fAdd at e
  split at e
  · cases e
    exact .inl ⟨_, _, ra.int, rb.int, q _ F H New.refl sub (.int _)⟩
  · split at e
    · rename_i hl
      cases e
      exact .inr (.inl ⟨_, _, ra.str, rb.str, by rw [line_eq]; exact hl, q _ F H New.refl sub (.str _)⟩)
    · cases e
  · rename_i xs ys
    split at e
    · rename_i hl
      cases e
      obtain ⟨p, vs, rfl, h1, r1⟩ := ra.tup
      obtain ⟨p2, ws, rfl, h2, r2⟩ := rb.tup
      refine .inr (.inr (.inl ⟨_, _, _, _, rfl, rfl, sqT_mono sub h1, sqT_mono sub h2, by rw [line_eq, r1.length, r2.length]; exact hl, fun e => ?_, fun e e2 => ?_, fun e e2 p hp => ?_⟩))
      · subst e
        cases r1
        exact q _ F H New.refl sub (.tup h2 r2)
      · subst e2
        cases r2
        rw [List.append_nil] at q
        exact q _ F H New.refl sub (.tup h1 r1)
      · obtain ⟨n, s2⟩ := New.one (o := .tup (vs ++ ws)) sub hp
        exact q _ _ _ n s2 (.tup (SqT.of upd_same) ((r1.append r2).mono n.f))
    · cases e
  · rename_i xs ys
    split at e
    · rename_i hl
      cases e
      obtain ⟨p, vs, rfl, h1, r1⟩ := ra.lst sub
      obtain ⟨p2, ws, rfl, h2, r2⟩ := rb.lst sub
      refine .inr (.inr (.inr ⟨_, _, _, _, rfl, rfl, h1, h2, by rw [line_eq, r1.length, r2.length]; exact hl, fun p hp => ?_⟩))
      obtain ⟨n, s2⟩ := New.one (o := .lst (vs ++ ws)) sub hp
      exact q _ _ _ n s2 (.lst upd_same ((r1.append r2).mono n.f))
    · cases e
  · cases e
theorem new_fresh {T : List (Addr × Str)} {F H : Hp} {p : Addr} {o : HO} (sub : Same F H) (hp : H p = none) (ho : NL o p := by exact .ext (by simp) (by simp)) : New T F H F (upd H p o) ∧ Same F (upd H p o) :=
  ⟨.ofSame (Same.refl F) (same_upd hp) (fun _ h => .inl h) (fun t => t.upd (.none hp) ho) fun h => h, sub.trans (same_upd hp)⟩
end
mutual
def toPy : D → PyData
  | .non => .none
  | .bl b => .bool b
  | .int i => .int i
  | .str s => .str s
  | .tup xs => .tuple (toPys xs)
  | .lst xs => .list (toPys xs)
  | .scr _ => .dict []
  | .dk _ => .dict []
  | .dn _ => .dict []
  | .obj _ _ => .dict []
  | .cls _ => .dict []
  | .fn _ _ => .dict []
  | .any => .dict []
def toPys : List D → List PyData
  | [] => []
  | d :: r => toPy d :: toPys r
end
def fEq (a b : D) : Option D := if SeqAt.shaped (toPy a) && SeqAt.shaped (toPy b) then some (.bl (PyData.eqv (toPy a) (toPy b))) else none
def fNe (a b : D) : Option D := if SeqAt.shaped (toPy a) && SeqAt.shaped (toPy b) then some (.bl (!PyData.eqv (toPy a) (toPy b))) else none
section
variable {K : PySem.W.Frag} {kap : Kp} {xi : Xi} {F : Hp}
mutual
theorem dp_of : ∀ {v : V} {d : D}, Rep K kap F v d → (toPy d).canLay0 = true → Dp K F v (toPy d)
  | _, _, .non, _ => .non
  | _, _, .bl b, _ => .bl b
  | _, _, .int i, _ => .int i
  | _, _, .str s, _ => .str s
  | _, _, .tup h r, c => .tup h (dps_of r (by simpa [toPy, PyData.canLay0] using c))
  | _, _, .lst h r, c => .lst (SqL.of h) (dps_of r (by simpa [toPy, PyData.canLay0] using c))
  | _, _, .scr _ _, c => by simp [toPy, PyData.canLay0] at c
  | _, _, .dk _ _ _, c => by simp [toPy, PyData.canLay0] at c
  | _, _, .dn _ _ _ _ _ _ _, c => by simp [toPy, PyData.canLay0] at c
  | _, _, .obj _ _ _, c => by simp [toPy, PyData.canLay0] at c
  | _, _, .clsB _, c => by simp [toPy, PyData.canLay0] at c
  | _, _, .clsO _, c => by simp [toPy, PyData.canLay0] at c
  | _, _, .any _, c => by simp [toPy, PyData.canLay0] at c
  | _, _, .fn _ _ _ _ _, c => by simp [toPy, PyData.canLay0] at c
theorem dps_of : ∀ {vs : List V} {ds : List D}, Reps K kap F vs ds → PyData.canLayAll0 (toPys ds) = true → DpAll K F vs (toPys ds)
  | _, _, .nil, _ => .nil
  | _ :: _, d :: ds, .cons h r, c => by
    have c' : (toPy d).canLay0 = true ∧ PyData.canLayAll0 (toPys ds) = true := by simpa [toPys, PyData.canLayAll0] using c
    exact .cons (dp_of h c'.1) (dps_of r c'.2)
end
theorem sp_eq : SP2 K kap (rEqD K) fEq := by
  intro F H x y a b z Q sub nt ra rb e q
  unfold fEq at e
  split at e
  · rename_i h
    rw [Bool.and_eq_true] at h
    cases e
    exact ⟨_, _, dp_of (ra.rep sub) (SeqAt.canLay_of_shaped h.1), dp_of (rb.rep sub) (SeqAt.canLay_of_shaped h.2), h.1, h.2, q _ F H New.refl sub (.bl _)⟩
  · cases e
theorem sp_ne : SP2 K kap (rNeD K) fNe := by
  intro F H x y a b z Q sub nt ra rb e q
  unfold fNe at e
  split at e
  · rename_i h
    rw [Bool.and_eq_true] at h
    cases e
    exact ⟨_, _, dp_of (ra.rep sub) (SeqAt.canLay_of_shaped h.1), dp_of (rb.rep sub) (SeqAt.canLay_of_shaped h.2), h.1, h.2, q _ F H New.refl sub (.bl _)⟩
  · cases e
end
def fIx : D → D → Option D
  | .tup xs, .int i => atI xs i
  | .lst xs, .int i => atI xs i
  | .scr xs, .int i => atI xs i
  | .str s, .int i => if s.length ≤ 16777216 then (atI s.cps.toList i).map fun c => .str ⟨#[c]⟩ else none
  | _, _ => none
section
variable {K : PySem.W.Frag} {kap : Kp} {xi : Xi}
theorem reps_at {F : Hp} {vs : List V} {ds : List D} {i : Int} {d : D} (r : Reps K kap F vs ds) (h : atI ds i = some d) : ∃ v, atI vs i = some v ∧ Rep K kap F v d := by
  unfold atI at h ⊢
  rw [r.length]
  obtain ⟨j, h1, h2⟩ := bind_some h
  obtain ⟨v, g1, g2⟩ := r.get h2
  exact ⟨v, by rw [h1]; exact g1, g2⟩
theorem sp_ix : SP2 K kap (rIx K) fIx := by
  intro F H x y a b z Q sub nt ra rb e q
  unfold fIx at e
  split at e
  · obtain ⟨p, vs, rfl, h1, r1⟩ := ra.tup
    obtain ⟨v, g1, g2⟩ := reps_at r1 e
    exact .inr (.inl ⟨p, vs, _, v, rfl, rb.int, sqT_mono sub h1, g1, q _ F H New.refl sub g2⟩)
  · obtain ⟨p, vs, rfl, h1, r1⟩ := ra.lst sub
    obtain ⟨v, g1, g2⟩ := reps_at r1 e
    exact .inl ⟨p, vs, _, v, rfl, rb.int, SqL.of h1, g1, q _ F H New.refl sub g2⟩
  · obtain ⟨p, vs, rfl, h1, r1⟩ := ra.scr
    obtain ⟨v, g1, g2⟩ := reps_at r1 e
    exact .inl ⟨p, vs, _, v, rfl, rb.int, sqL_mono sub h1, g1, q _ F H New.refl sub g2⟩
  · split at e
    · rename_i hl
      obtain ⟨c, h1, h2⟩ := Option.map_eq_some_iff.mp e
      cases h2
      exact .inr (.inr ⟨_, _, c, ra.str, rb.int, by rw [line_eq]; exact hl, h1, q _ F H New.refl sub (.str _)⟩)
    · cases e
  · cases e
end
def fLen : List D → Option D
  | [.str s] => if s.length ≤ 16777216 then some (.int s.length) else none
  | [.tup xs] => some (.int xs.length)
  | [.lst xs] => some (.int xs.length)
  | [.scr xs] => some (.int xs.length)
  | [.dk xs] => some (.int xs.length)
  | _ => none
def rLenA (K : PySem.W.Frag) : List V → Hp → VK → Prop := fun xs H Q => (∃ x n, xs = [x] ∧ LenV K x H n ∧ Q (.int n) H) ∨ ∃ a kvs, xs = [V.ref a] ∧ H a = some (.dK kvs) ∧ Q (.int kvs.length) H
theorem callR_or {X : Cx} {f : Value} {r r' : List V → Hp → VK → Prop} (h : CallR X f r) (h' : CallR X f r') : CallR X f (fun xs H Q => r xs H Q ∨ r' xs H Q) :=
  fun pins s sg H xs us Q I rr q => q.elim (h pins s sg H xs us Q I rr) (h' pins s sg H xs us Q I rr)
theorem call_lenA {X : Cx} : CallR X (.builtin "len") (rLenA X.K) := callR_or call_len call_lenD
def fAbs : List D → Option D
  | [.int i] => some (.int (if i < 0 then -i else i))
  | _ => none
def fInt : List D → Option D
  | [.int i] => some (.int i)
  | [.bl k] => some (.int (if k then 1 else 0))
  | _ => none
def fStrI : List D → Option D
  | [.int i] => if i.natAbs.log2 < 1920 then some (.str (toString i)) else none
  | _ => none
def fTuple : List D → Option D
  | [.tup xs] => some (.tup xs)
  | [.lst xs] => some (.tup xs)
  | _ => none
section
variable {K : PySem.W.Frag} {kap : Kp} {xi : Xi}
theorem one_of {F H : Hp} {xs : List V} {a : D} (h : Paired (RB K kap F H) xs [a]) : ∃ x, xs = [x] ∧ RB K kap F H x a := by
  cases h with
  | cons h r => cases r; exact ⟨_, rfl, h⟩
theorem two_of {F H : Hp} {xs : List V} {a b : D} (h : Paired (RB K kap F H) xs [a, b]) : ∃ x y, xs = [x, y] ∧ RB K kap F H x a ∧ RB K kap F H y b := by
  cases h with
  | cons h r => cases r with | cons h2 r => cases r; exact ⟨_, _, rfl, h, h2⟩
theorem sp_len : SPN K kap (rLenA K) fLen := by
  intro F H xs as z Q sub nt ra e q
  unfold fLen at e
  split at e
  · split at e
    · rename_i hl
      cases e
      obtain ⟨x, rfl, r⟩ := one_of ra
      rw [r.str]
      exact .inl ⟨_, _, rfl, ⟨by rw [line_eq]; exact hl, rfl⟩, q _ F H New.refl sub (.int _)⟩
    · cases e
  · cases e
    obtain ⟨x, rfl, r⟩ := one_of ra
    obtain ⟨p, vs, rfl, h1, r1⟩ := r.tup
    exact .inl ⟨_, _, rfl, .inr ⟨vs, sqT_mono sub h1, rfl⟩, by rw [r1.length]; exact q _ F H New.refl sub (.int _)⟩
  · cases e
    obtain ⟨x, rfl, r⟩ := one_of ra
    obtain ⟨p, vs, rfl, h1, r1⟩ := r.lst sub
    exact .inl ⟨_, _, rfl, .inl ⟨vs, SqL.of h1, rfl⟩, by rw [r1.length]; exact q _ F H New.refl sub (.int _)⟩
  · cases e
    obtain ⟨x, rfl, r⟩ := one_of ra
    obtain ⟨p, vs, rfl, h1, r1⟩ := r.scr
    exact .inl ⟨_, _, rfl, .inl ⟨vs, sqL_mono sub h1, rfl⟩, by rw [r1.length]; exact q _ F H New.refl sub (.int _)⟩
  · cases e
    obtain ⟨x, rfl, r⟩ := one_of ra
    obtain ⟨p, kvs, rfl, h1, n1, r1⟩ := r.dk sub
    refine .inr ⟨_, kvs, rfl, h1, ?_⟩
    have hl := r1.length
    rw [List.length_map, List.length_map] at hl
    rw [hl]
    exact q _ F H New.refl sub (.int _)
  · cases e
theorem sp_abs : SPN K kap (fun xs H Q => ∃ i, xs = [.int i] ∧ Q (.int (if i < 0 then -i else i)) H) fAbs := by
  intro F H xs as z Q sub nt ra e q
  unfold fAbs at e
  split at e
  · cases e
    obtain ⟨x, rfl, r⟩ := one_of ra
    rw [r.int]
    exact ⟨_, rfl, q _ F H New.refl sub (.int _)⟩
  · cases e
theorem sp_int : SPN K kap (fun xs H Q => (∃ i, xs = [.int i] ∧ Q (.int i) H) ∨ ∃ k, xs = [.bl k] ∧ Q (.int (if k then 1 else 0)) H) fInt := by
  intro F H xs as z Q sub nt ra e q
  unfold fInt at e
  split at e
  · cases e
    obtain ⟨x, rfl, r⟩ := one_of ra
    rw [r.int]
    exact .inl ⟨_, rfl, q _ F H New.refl sub (.int _)⟩
  · cases e
    obtain ⟨x, rfl, r⟩ := one_of ra
    rw [r.bl]
    exact .inr ⟨_, rfl, q _ F H New.refl sub (.int _)⟩
  · cases e
theorem sp_strI : SPN K kap (fun xs H Q => ∃ i, xs = [.int i] ∧ i.natAbs.log2 < 1920 ∧ Q (.str (toString i)) H) fStrI := by
  intro F H xs as z Q sub nt ra e q
  unfold fStrI at e
  split at e
  · split at e
    · rename_i hl
      cases e
      obtain ⟨x, rfl, r⟩ := one_of ra
      rw [r.int]
      exact ⟨_, rfl, hl, q _ F H New.refl sub (.str _)⟩
    · cases e
  · cases e
end
end DL
namespace DL
open PySem L2
section
variable {K : PySem.W.Frag} {kap : Kp} {xi : Xi} {F H : Hp} {sg : St} {de : DEnv} {O : Own?} {W : WX}
theorem RS.add (R : RS K kap xi F H sg de O) {p : Addr} {o : HO} (hf : F p = none) (hh : H p = some o) (hO : ∀ i, O i ≠ some p) (hnt : ∀ ps, o ≠ .tbl ps := by intro _ z; first | cases z | (unfold exO at z; cases z)) : RS K kap xi (upd F p o) H sg de O where
  len := R.len
  va := fun i d e => by
    obtain ⟨v, h1, h2⟩ := R.va i d e
    exact ⟨v, h1, h2.mono (same_upd hf)⟩
  ow := fun i s d e h => by
    obtain ⟨q, h1, h2, h3, h4⟩ := R.ow i s d e h
    refine ⟨q, h1, h2, ?_, h4.mono (same_upd hf) rfl⟩
    have : q ≠ p := fun z => hO i (by rw [h1, z])
    rw [upd_ne this]; exact h3
  ex := fun i c fs e => by
    obtain ⟨a, d, h1, h2, h3⟩ := R.ex i c fs e
    exact ⟨a, d, h1, h2, h3.mono (same_upd hf)⟩
  onl := R.onl
  inj := R.inj
  sub := fun a u e => by
    by_cases z : a = p
    · subst z; rw [upd_same] at e; cases e; exact hh
    · rw [upd_ne z] at e; exact R.sub a u e
  nt := R.nt.upd hnt
  tab := R.tab
  cn := fun i d e => by
    obtain ⟨me, h1, h2, h3⟩ := R.cn i d e
    exact ⟨me, h1, h2, h3.mono (same_upd hf)⟩
  gh := R.ghs (same_upd hf) (fun i s d q h1 h2 h3 => ⟨by rw [upd_ne fun z => hO i (by rw [h3, z])]; exact (R.held h3).1, rfl⟩) fun i s d h1 h2 => ⟨h1, rfl⟩
theorem snd_fz {t : WX → TE} {ev : DEnv → Rs D} (h : Snd K kap xi (RlF K kap) t ev) : Snd K kap xi (RlE K kap) t ev := by
  intro W F H sg de O Q R hp
  refine h W F H sg de O Q R ?_
  cases e : ev de with
  | ok d de1 =>
    rw [e] at hp
    intro v F' H' O' R' g ⟨p, ev', hf, how, hO⟩ org
    subst ev'
    obtain ⟨o, ho, hr⟩ := how.freeze hf
    refine hp (.ref p) (upd F' p o) H' O' (R'.add hf ho hO fun ps z => how.notTbl ps (by rw [ho, z])) ⟨g.ex.trans (same_upd hf), g.keep, g.new, g.dom, fun a z => ?_, g.pin⟩ hr fun _ z => z.elim
    by_cases q : a = p
    · subst q; exact .inr (org a rfl)
    · rw [upd_ne q] at z; exact g.fnew a z
  | ex c fs de1 => rw [e] at hp; exact hp
  | bad => rw [e] at hp; exact hp
end
section
variable {kap : Kp} {xi : Xi} {X : Cx} {W : WX} {a b c e : Expr} {ta tb tc t : WX → TE} {oa ob oc : Op} {ev ev1 ev2 : DEnv → Rs D} {pos p : Pos}
theorem JF.fz (h : JF kap xi X W e t ev) : JE kap xi X W e t ev := ⟨h.p, snd_fz h.s⟩
theorem jAdd (ha : JO kap xi X W a ta oa) (hb : JO kap xi X W b tb ob) : JE kap xi X W (.BinOp a .Add b pos) (fun W => tOp (rAddA X.K) (ta W) (tb W)) (vO2 fAdd oa ob) := jOp op_addA sp_addA ha hb
theorem jItem (ha : JO kap xi X W a ta oa) (hb : JO kap xi X W b tb ob) (hs : PlainIx b := by exact fun _ _ => rfl) : JE kap xi X W (.Subscript a b pos) (fun W => tOp (rIx X.K) (ta W) (tb W)) (vO2 fIx oa ob) := jIx ix_seq sp_ix ha hb hs
def asB : D → Option Bool
  | .bl b => some b
  | _ => none
def vB (ev : DEnv → Rs D) (de : DEnv) : Rs Bool := (ev de).bind fun d de' => ofO (asB d) de'
def vOr (e1 e2 : DEnv → Rs Bool) (de : DEnv) : Rs Bool := (e1 de).bind fun b de' => if b = true then .ok true de' else e2 de'
def vNot (e1 : DEnv → Rs Bool) (de : DEnv) : Rs Bool := (e1 de).bind fun b de' => .ok (!b) de'
theorem rep_bl {K : PySem.W.Frag} {F : Hp} {v : V} {d : D} {b : Bool} (r : Rep K kap F v d) (h : asB d = some b) : v = .bl b := by
  cases r with
  | bl b' => cases h; rfl
  | _ => cases h
theorem jBc {op : CmpOp} {r : R2} {f : D → D → Option D} (ho : OpR X (compareOp op) r) (s : SP2 X.K kap r f) (ha : JO kap xi X W a ta oa) (hb : JO kap xi X W b tb ob) (hm : behindInMarks op b = false := by first | exact nomark _ | rfl) :
    JT kap xi X W (.Compare a [op] [b] pos) (fun W => tTest (tOp r (ta W) (tb W))) (vB (vO2 f oa ob)) := ⟨pt_cmpR ho ha.p hb.p hm, by
  intro W F H sg de O Q R hp
  refine (snd_o2 s ha.s hb.s).bind R hp fun v d F1 H1 de1 O1 R1 g1 r _ hp => ?_
  obtain ⟨b, e, hp⟩ := ofO_some hp
  exact ⟨b, rep_bl r e, hp.done R1 New.refl R1.sub rfl⟩⟩
structure JW (kap : Kp) (xi : Xi) (X : Cx) (W : WX) (e : Expr) (t : WX → TT) (ev : DEnv → Rs Bool) : Prop where
  p : PW X e (t W)
  s : Snd X.K kap xi RlB t ev
variable {t1 t2 : WX → TT} {b1 b2 : DEnv → Rs Bool} {rest : List Expr}
theorem JW.pt (h : JW kap xi X W e t1 b1) : JT kap xi X W e t1 b1 := ⟨h.p.pt, h.s⟩
theorem jwOr1 (h : JT kap xi X W a t1 b1) : JW kap xi X W (.BoolOp .Or [a] pos) t1 b1 := ⟨pw_or1 h.p, h.s⟩
theorem snd_or {K : PySem.W.Frag} (h1 : Snd K kap xi RlB t1 b1) (h2 : Snd K kap xi RlB t2 b2) : Snd K kap xi RlB (fun W => tOr (t1 W) (t2 W)) (vOr b1 b2) := by
  intro W F H sg de O Q R hp
  refine h1.bind R hp fun v d F1 H1 de1 O1 R1 g1 r _ hp => ?_
  cases (show v = d from r)
  cases v with
  | true => exact iteT (hp.done R1 New.refl R1.sub rfl)
  | false => exact iteF (h2 W F1 H1 sg de1 O1 Q R1 hp)
theorem jwOr (h1 : JT kap xi X W a t1 b1) (h2 : JW kap xi X W (.BoolOp .Or (b :: rest) pos) t2 b2) : JW kap xi X W (.BoolOp .Or (a :: b :: rest) pos) (fun W => tOr (t1 W) (t2 W)) (vOr b1 b2) := ⟨pw_or h1.p h2.p, snd_or h1.s h2.s⟩
theorem jtNot (h : JT kap xi X W a t1 b1) : JT kap xi X W (.UnaryOp .Not a pos) (fun W => tNot (t1 W)) (vNot b1) := ⟨pt_not h.p, by
  intro W F H sg de O Q R hp
  refine h.s.bind R hp fun v d F1 H1 de1 O1 R1 g1 r _ hp => ?_
  cases (show v = d from r)
  exact hp.done R1 New.refl R1.sub rfl⟩
def vAndV (e1 e2 : DEnv → Rs D) (de : DEnv) : Rs D := (e1 de).bind fun d de' => match d with | .bl true => e2 de' | .bl false => .ok (.bl false) de' | _ => .bad
def vOrV (e1 e2 : DEnv → Rs D) (de : DEnv) : Rs D := (e1 de).bind fun d de' => match d with | .bl true => .ok (.bl true) de' | .bl false => e2 de' | _ => .bad
def fNotV : D → Option D
  | .bl b => some (.bl (!b))
  | _ => none
def vNotV (e1 : DEnv → Rs D) (de : DEnv) : Rs D := (e1 de).bind fun d de' => ofO (fNotV d) de'
theorem jOneV {op : BoolOp} (h : JE kap xi X W a t ev) : JE kap xi X W (.BoolOp op [a] pos) t ev := ⟨pe_one h.p, h.s⟩
theorem jAndV (h1 : JE kap xi X W a ta ev1) (h2 : JE kap xi X W (.BoolOp .And (b :: rest) pos) tb ev2) : JE kap xi X W (.BoolOp .And (a :: b :: rest) pos) (fun W => tAndV (ta W) (tb W)) (vAndV ev1 ev2) := ⟨pe_and h1.p h2.p, by
  intro W F H sg de O Q R hp
  refine h1.s.bind R hp fun v d F1 H1 de1 O1 R1 g1 r _ hp => ?_
  cases r with
  | bl b =>
    cases b with
    | true => exact ⟨true, rfl, iteT (h2.s W F1 H1 sg de1 O1 Q R1 hp)⟩
    | false => exact ⟨false, rfl, iteF (hp.done R1 New.refl R1.sub (.bl _))⟩
  | _ => exact hp.elim⟩
theorem jOrV (h1 : JE kap xi X W a ta ev1) (h2 : JE kap xi X W (.BoolOp .Or (b :: rest) pos) tb ev2) : JE kap xi X W (.BoolOp .Or (a :: b :: rest) pos) (fun W => tOrV (ta W) (tb W)) (vOrV ev1 ev2) := ⟨pe_or h1.p h2.p, by
  intro W F H sg de O Q R hp
  refine h1.s.bind R hp fun v d F1 H1 de1 O1 R1 g1 r _ hp => ?_
  cases r with
  | bl b =>
    cases b with
    | true => exact ⟨true, rfl, iteT (hp.done R1 New.refl R1.sub (.bl _))⟩
    | false => exact ⟨false, rfl, iteF (h2.s W F1 H1 sg de1 O1 Q R1 hp)⟩
  | _ => exact hp.elim⟩
theorem jNotV (h1 : JE kap xi X W a ta ev1) : JE kap xi X W (.UnaryOp .Not a pos) (fun W => tNotV (ta W)) (vNotV ev1) := ⟨pe_not h1.p, by
  intro W F H sg de O Q R hp
  refine h1.s.bind R hp fun v d F1 H1 de1 O1 R1 g1 r _ hp => ?_
  obtain ⟨z, e, hp⟩ := ofO_some hp
  cases r with
  | bl b => cases e; exact ⟨b, rfl, hp.done R1 New.refl R1.sub (.bl _)⟩
  | _ => cases e⟩
def truD : D → Option Bool
  | .non => some false
  | .bl b => some b
  | .int i => some (i != 0)
  | .str s => if s.length ≤ 16777216 then some ((s.length : Int) != 0) else none
  | .tup xs => some (!xs.isEmpty)
  | .lst xs => some (!xs.isEmpty)
  | .scr xs => some (!xs.isEmpty)
  | .dk xs => some (!xs.isEmpty)
  | _ => none
def vTru (oa : Op) (de : DEnv) : Rs Bool := (oa.run de).bind fun fa de1 => ofO ((fa de1).bind truD) de1
theorem empty_of {K : PySem.W.Frag} {F : Hp} {vs : List V} {ds : List D} (r : Reps K kap F vs ds) : vs.isEmpty = ds.isEmpty := by
  cases r <;> rfl
theorem tru_of {K : PySem.W.Frag} {F H : Hp} {v : V} {d : D} {k : Bool} (sub : Same F H) (r : RB K kap F H v d) (h : truD d = some k) : TruV K v H k := by
  unfold truD at h
  split at h
  · cases h; rw [r.non]; rfl
  · cases h; rw [r.bl]; rfl
  · cases h; rw [r.int]; rfl
  · split at h
    · rename_i hl
      cases h; rw [r.str]; exact ⟨by rw [line_eq]; exact hl, rfl⟩
    · cases h
  · cases h
    obtain ⟨p, vs, rfl, h1, r1⟩ := r.tup
    exact .inr (.inl ⟨vs, sqT_mono sub h1, by rw [empty_of r1]⟩)
  · cases h
    obtain ⟨p, vs, rfl, h1, r1⟩ := r.lst sub
    exact .inl ⟨vs, SqL.of h1, by rw [empty_of r1]⟩
  · cases h
    obtain ⟨p, vs, rfl, h1, r1⟩ := r.scr
    exact .inl ⟨vs, sqL_mono sub h1, by rw [empty_of r1]⟩
  · cases h
    obtain ⟨p, kvs, rfl, h1, n1, r1⟩ := r.dk sub
    refine .inr (.inr ⟨kvs, h1, ?_⟩)
    have := empty_of r1
    rw [List.isEmpty_map, List.isEmpty_map] at this
    rw [this]
  · cases h
def tTru (K : PySem.W.Frag) (ta : TE) : TT := fun sg H Q => ta sg H fun x H' => ∃ k, TruV K x H' k ∧ Q k H'
theorem jTru (ha : JO kap xi X W a ta oa) (he : ∀ whole, isTrue a X.env whole = (do let v ← whole; standAt a.pos; holding [v] (truthy v)) := by intro _; rfl) : JT kap xi X W a (fun W => tTru X.K (ta W)) (vTru oa) := ⟨pt_truth ha.p he, by
  intro W F H sg de O Q R hp
  refine ha.s.bind R hp fun x fa F1 H1 de1 O1 R1 g1 ra _ hp => ?_
  obtain ⟨k, e, hp⟩ := ofO_some hp
  obtain ⟨d, e1, e⟩ := bind_some e
  exact ⟨k, tru_of R1.sub (ra xi F1 H1 de1 O1 R1 (Same.refl _) d e1) e, hp.done R1 New.refl R1.sub rfl⟩⟩
end
def vNil (de : DEnv) : Rs (List D) := .ok [] de
def vCons (ev : DEnv → Rs D) (er : DEnv → Rs (List D)) (de : DEnv) : Rs (List D) := (ev de).bind fun d de1 => (er de1).bind fun ds de2 => .ok (d :: ds) de2
def vTup (ea : DEnv → Rs (List D)) (de : DEnv) : Rs D := (ea de).bind fun ds de1 => if ds.length ≤ 16777216 then .ok (.tup ds) de1 else .bad
def vLst (ea : DEnv → Rs (List D)) (de : DEnv) : Rs D := (ea de).bind fun ds de1 => if ds.length ≤ 16777216 then .ok (.lst ds) de1 else .bad
section
variable {kap : Kp} {xi : Xi} {X : Cx} {W : WX} {e : Expr} {es : List Expr} {t : WX → TE} {ts : WX → TA} {ev : DEnv → Rs D} {er ea : DEnv → Rs (List D)} {pos p : Pos} {x1 : Nat}
theorem jaNil : JA kap xi X W [] (fun _ => tNil) vNil := ⟨pa_nil, fun W F H sg de O Q R hp => hp.done R New.refl R.sub .nil⟩
theorem jaCons (h : JE kap xi X W e t ev) (hr : JA kap xi X W es ts er) (hs : starEach (e :: es) X.env = (false, eval e X.env) :: starEach es X.env := by rfl) : JA kap xi X W (e :: es) (fun W => tCons (t W) (ts W)) (vCons ev er) := ⟨pa_cons h.p hr.p hs, by
  intro W F H sg de O Q R hp
  refine h.s.bind R hp fun v f F1 H1 de1 O1 R1 g1 r _ hp => ?_
  refine hr.s.bind R1 hp fun vs fs F2 H2 de2 O2 R2 g2 rs _ hp => ?_
  exact hp.done R2 New.refl R2.sub (.cons (Rep.mono g2.ex r) rs)⟩
theorem jTup (h : JA kap xi X W es ts ea) : JE kap xi X W (.Tuple es x1 pos) (fun W => tTup (ts W)) (vTup ea) := ⟨pe_tup h.p, by
  intro W F H sg de O Q R hp
  refine h.s.bind R hp fun vs ds F1 H1 de1 O1 R1 g1 r _ hp => ?_
  split at hp
  · rename_i hl
    refine ⟨by rw [line_eq, Reps.length r]; exact hl, fun p hq => ?_⟩
    obtain ⟨n, s2⟩ := New.one (o := .tup vs) R1.sub hq
    exact hp.done R1 n s2 (.tup (SqT.of upd_same) (Reps.mono n.f r))
  · exact hp.elim⟩
theorem jLst (h : JA kap xi X W es ts ea) : JF kap xi X W (.List es pos) (fun W => tLst (ts W)) (vLst ea) := ⟨pe_lst h.p, by
  intro W F H sg de O Q R hp
  refine h.s.bind R hp fun vs ds F1 H1 de1 O1 R1 g1 r _ hp => ?_
  split at hp
  · rename_i hl
    refine ⟨by rw [line_eq, Reps.length r]; exact hl, fun p hq => ?_⟩
    obtain ⟨n, s2⟩ := new_fresh (o := .lst vs) R1.sub hq
    exact hp.done R1 n s2 (fresh_new R1 n s2 hq ⟨_, upd_same, r⟩) fun p' e => by cases e; exact hq
  · exact hp.elim⟩
theorem jDk0 : JF kap xi X W (.Dict [] [] pos) (fun _ => tDNewK) (vC (.dk [])) := ⟨pe_dnewK, by
  intro W F H sg de O Q R hp p hq
  obtain ⟨n, s2⟩ := new_fresh (o := .dK []) R.sub hq
  exact hp.done R n s2 (fresh_new R n s2 hq ⟨[], upd_same, rfl, .nil⟩) fun p' e => by cases e; exact hq⟩
end
def fFld (cl : List Nat) (f : Str) : D → Option D
  | .obj c fs => if cl.contains c then fs.lookup f else none
  | _ => none
def vFld (cl : List Nat) (f : Str) (oa : Op) (de : DEnv) : Rs D := vO1 (fFld cl f) oa de
section
variable {kap : Kp} {xi : Xi} {X : Cx} {W : WX} {e : Expr} {t : WX → TE} {o : Op} {pos : Pos}
theorem jFld (cl : List Nat) {f : Str} (hc : ∀ c ∈ cl, Cls X.K (kap c) ∧ NoAttr X.K (kap c) f) (h : JO kap xi X W e t o) (hb : attributeBase e f X.env (eval e X.env) = eval e X.env := by rfl) : JE kap xi X W (.Attribute e f pos) (fun W => tFld X.K (t W) f) (vFld cl f o) := ⟨pe_fld h.p hb, by
  intro W F H sg de O Q R hp
  refine h.s.bind R hp fun x fa F1 H1 de1 O1 R1 g1 ra _ hp => ?_
  obtain ⟨z, e, hp⟩ := ofO_some hp
  obtain ⟨d, e1, e⟩ := bind_some e
  have rd := ra xi F1 H1 de1 O1 R1 (Same.refl _) d e1
  unfold fFld at e
  split at e
  · split at e
    · rename_i c fs hm
      obtain ⟨a, dx, vs, rfl, h1, n1, r1⟩ := rd.obj R1.sub
      obtain ⟨v, g1, g2⟩ := field_get n1 r1 e
      obtain ⟨k1, k2⟩ := hc c (List.contains_iff_mem.mp hm)
      exact ⟨a, _, dx, vs, v, rfl, h1, k1, k2, g1, hp.done R1 New.refl R1.sub g2⟩
    · cases e
  · cases e⟩
end
def vNoP (de : DEnv) : Rs (Option Int) := .ok none de
def asI : D → Option Int
  | .int i => some i
  | _ => none
def vPart (ev : DEnv → Rs D) (de : DEnv) : Rs (Option Int) := (ev de).bind fun d de' => ofO ((asI d).map some) de'
structure JP (kap : Kp) (xi : Xi) (X : Cx) (W : WX) (e : Option Expr) (t : WX → TO) (ev : DEnv → Rs (Option Int)) : Prop where
  p : PO X e (t W)
  s : Snd X.K kap xi (RlQ (Option Int)) t ev
def cutD (xs : List D) (lo hi : Option Int) : List D := (xs.drop (HT.sIx xs.length 0 lo)).take (HT.sIx xs.length xs.length hi - HT.sIx xs.length 0 lo)
def vSl (f : D → Option Int → Option Int → Option D) (o : Op) (e1 e2 : DEnv → Rs (Option Int)) (de : DEnv) : Rs D :=
  (o.run de).bind fun fa de1 => (e1 de1).bind fun l de2 => (e2 de2).bind fun u de3 => ofO ((fa de3).bind fun d => f d l u) de3
section
variable {kap : Kp} {xi : Xi} {X : Cx} {W : WX} {e : Expr} {t : WX → TE} {o : Op} {ev : DEnv → Rs D} {pos p2 : Pos} {lo hi : Option Expr} {tl th : WX → TO} {e1 e2 : DEnv → Rs (Option Int)}
theorem rep_int {K : PySem.W.Frag} {F : Hp} {v : V} {d : D} {i : Int} (r : Rep K kap F v d) (h : asI d = some i) : v = .int i := by
  cases r with
  | int j => cases h; rfl
  | _ => cases h
theorem jNoP : JP kap xi X W none (fun _ => tNoPart) vNoP := ⟨po_none, fun W F H sg de O Q R hp => hp.done R New.refl R.sub rfl⟩
theorem jPart (h : JE kap xi X W e t ev) : JP kap xi X W (some e) (fun W => tPart (t W)) (vPart ev) := ⟨po_some h.p, by
  intro W F H sg de O Q R hp
  refine h.s.bind R hp fun v d F1 H1 de1 O1 R1 g1 r _ hp => ?_
  obtain ⟨z, e, hp⟩ := ofO_some hp
  obtain ⟨i, e1, e2⟩ := Option.map_eq_some_iff.mp e
  cases e2
  exact ⟨i, rep_int r e1, hp.done R1 New.refl R1.sub rfl⟩⟩
theorem Reps.cut {K : PySem.W.Frag} {F : Hp} {vs : List V} {ds : List D} (r : Reps K kap F vs ds) (lo hi : Option Int) : Reps K kap F (cutV vs lo hi) (cutD ds lo hi) := by
  unfold cutV cutD
  rw [r.length]
  exact (r.drop _).take _
theorem cut_whole (ds : List D) (lo hi : Option Int) (h : HT.sIx ds.length 0 lo = 0 ∧ HT.sIx ds.length ds.length hi = ds.length) : cutD ds lo hi = ds := by
  unfold cutD
  rw [h.1, h.2]
  simp
end
def tyOf : D → Option Ty
  | .non => some (.b "NoneType")
  | .bl _ => some (.b "bool")
  | .int _ => some (.b "int")
  | .str _ => some (.b "str")
  | .tup _ => some (.b "tuple")
  | .lst _ => some (.b "list")
  | .dk _ => some (.b "dict")
  | .dn _ => some (.b "dict")
  | .obj c _ => some (.o c)
  | _ => none
def isi : Ty → Ty → Bool
  | .b S, .b T => S == T || (S == "bool" && T == "int")
  | .o c, .o c' => c == c'
  | _, _ => false
def bCls : List String := ["bool", "int", "str", "tuple", "list", "dict"]
def tyN : Ty → Bool
  | .b T => T == "NoneType"
  | .o _ => false
def tyIn (cs : List Nat) : Ty → Bool
  | .b T => bCls.contains T
  | .o c => cs.contains c
def fIsi (cs : List Nat) : List D → Option D
  | [d, .cls t] => (tyOf d).bind fun s => if (tyIn cs s || tyN s) && tyIn cs t then some (.bl (isi s t)) else none
  | _ => none
structure KitC (K : PySem.W.Frag) (C : Addr) : Prop where
  cl : Cls K C
  ha : PySem.W.findIn K (.ref C) "__class__" = some (some (.builtin "object.__class__"))
  hn : PySem.W.specialIn K (.builtin "object.__class__") "__get__" = some (some (.builtin "getset_descriptor.__get__"))
  ht : PySem.W.takesIn K (.builtin "object.__class__") = some true
  hm : PySem.W.mroIn K C (.type "object") = some true
  ic : PySem.W.isClsIn K C = true
  ty : PySem.W.typeIn K (.ref C) = some (.type "type")
  mb : ∀ T ∈ bCls, PySem.W.mroIn K C (.type T) = some false
structure KitK (K : PySem.W.Frag) (kap : Kp) (cs : List Nat) : Prop where
  all : ∀ c ∈ cs, KitC K (kap c)
  mo : ∀ c ∈ cs, ∀ c' ∈ cs, c ≠ c' → PySem.W.mroIn K (kap c) (.ref (kap c')) = some false ∧ kap c ≠ kap c'
def tyVal (kap : Kp) : Ty → Value
  | .b T => .type T
  | .o c => .ref (kap c)
theorem kit_bb : ∀ S ∈ "NoneType" :: bCls, ∀ T ∈ bCls, ∀ K : PySem.W.Frag, PySem.W.kitOne K (.type S) (.type T) = some (S == T || (S == "bool" && T == "int")) := by
  intro S hS T hT K
  have h : ∀ S ∈ "NoneType" :: bCls, ∀ T ∈ bCls, PySem.W.kitOne [] (.type S) (.type T) = some (S == T || (S == "bool" && T == "int")) := by decide +kernel
  exact h S hS T hT
def isTy : Value → Bool
  | .type _ => true
  | _ => false
theorem mro_ty : ∀ S ∈ "NoneType" :: bCls, (PySem.fastBuiltinMro S).elim false (·.all isTy) = true := by decide +kernel
theorem sub_bo (K : PySem.W.Frag) (C : Addr) : ∀ S ∈ "NoneType" :: bCls, PySem.W.subIn K (.type S) (.ref C) = some false := by
  intro S hS
  have h := mro_ty S hS
  show (PySem.fastBuiltinMro S).map (·.contains (.ref C)) = some false
  cases e : PySem.fastBuiltinMro S with
  | none => rw [e] at h; cases h
  | some l =>
    rw [e] at h
    have h' : l.all isTy = true := h
    show some (l.contains (.ref C)) = some false
    congr 1
    rw [List.all_eq_true] at h'
    cases z : l.contains (.ref C) with
    | false => rfl
    | true =>
      have := h' _ (List.contains_iff_mem.mp z)
      cases this
theorem kit_meta : ∀ T ∈ bCls, PySem.W.kitMeta T = true := by decide +kernel
theorem kit_ans {K : PySem.W.Frag} {kap : Kp} {cs : List Nat} (k : KitK K kap cs) {s t : Ty} (hs : (tyIn cs s || tyN s) = true) (ht : tyIn cs t = true) : PySem.W.kitOne K (tyVal kap s) (tyVal kap t) = some (isi s t) := by
  have hsb : ∀ S, s = .b S → S ∈ "NoneType" :: bCls := fun S e => by
    subst e
    rw [Bool.or_eq_true] at hs
    rcases hs with h | h
    · exact List.mem_cons_of_mem _ (List.contains_iff_mem.mp h)
    · have e : S = "NoneType" := by simpa [tyN] using h
      rw [e]; exact List.mem_cons_self ..
  have hso : ∀ c, s = .o c → c ∈ cs := fun c e => by
    subst e
    rw [Bool.or_eq_true] at hs
    rcases hs with h | h
    · exact List.contains_iff_mem.mp h
    · cases h
  cases t with
  | b T =>
    have hT : T ∈ bCls := List.contains_iff_mem.mp ht
    cases s with
    | b S => exact kit_bb S (hsb S rfl) T hT K
    | o c =>
      show (if (Value.ref (kap c) == Value.type T) = true then some true else PySem.W.kitCls K (.ref (kap c)) (.type T)) = some false
      rw [if_neg (by intro z; cases z)]
      show (if PySem.W.kitMeta T = true then PySem.W.subIn K (.ref (kap c)) (.type T) else none) = some false
      rw [if_pos (kit_meta T hT)]
      exact (k.all c (hso c rfl)).mb T hT
  | o c' =>
    have hc' : c' ∈ cs := List.contains_iff_mem.mp ht
    have kc := k.all c' hc'
    have e1 : ((PySem.W.clsIn K (kap c')).isSome && PySem.W.typeIn K (.ref (kap c')) == some (.type "type")) = true := by
      have h1 : (PySem.W.clsIn K (kap c')).isSome = true := kc.ic
      rw [h1, kc.ty]
      rfl
    cases s with
    | b S =>
      show (if (Value.type S == Value.ref (kap c')) = true then some true else PySem.W.kitCls K (.type S) (.ref (kap c'))) = some false
      rw [if_neg (by intro z; cases z)]
      show (if ((PySem.W.clsIn K (kap c')).isSome && PySem.W.typeIn K (.ref (kap c')) == some (.type "type")) = true then PySem.W.subIn K (.type S) (.ref (kap c')) else none) = some false
      rw [if_pos e1]
      exact sub_bo K _ S (hsb S rfl)
    | o c =>
      show (if (Value.ref (kap c) == Value.ref (kap c')) = true then some true else PySem.W.kitCls K (.ref (kap c)) (.ref (kap c'))) = some (c == c')
      by_cases q : c = c'
      · subst q
        rw [if_pos (by simp)]
        simp
      · obtain ⟨m1, m2⟩ := k.mo c (hso c rfl) c' hc' q
        rw [if_neg (by simp [m2])]
        show (if ((PySem.W.clsIn K (kap c')).isSome && PySem.W.typeIn K (.ref (kap c')) == some (.type "type")) = true then PySem.W.subIn K (.ref (kap c)) (.ref (kap c')) else none) = some (c == c')
        rw [if_pos e1]
        have : (c == c') = false := by simpa using q
        rw [this]
        exact m1
theorem tyx_of {K : PySem.W.Frag} {kap : Kp} {cs : List Nat} (k : KitK K kap cs) {F H : Hp} {v : V} {d : D} {s : Ty} (sub : Same F H) (r : RB K kap F H v d) (h : tyOf d = some s) (hs : (tyIn cs s || tyN s) = true) : TyY K H v (tyVal kap s) := by
  cases d with
  | non => cases h; rw [r.non]; exact .x <| .base .non
  | bl b => cases h; rw [r.bl]; exact .x <| .base (.bl _)
  | int i => cases h; rw [r.int]; exact .x <| .base (.int _)
  | str x => cases h; rw [r.str]; exact .x <| .base (.str _)
  | tup xs =>
    cases h
    obtain ⟨p, vs, rfl, h1, r1⟩ := r.tup
    rcases sqT_mono sub h1 with (h1 | ⟨o, h1⟩) | ⟨o, its, n, h1, h2, _⟩
    · exact .x <| .base (.tup h1)
    · exact .x <| .fTuple h1
    · exact .x <| .kTuple h1 h2
  | lst xs => cases h; obtain ⟨p, vs, rfl, h1, r1⟩ := r.lst sub; exact .x <| .base (.lst h1)
  | scr xs => cases h
  | dk xs => cases h; obtain ⟨p, vs, rfl, h1, r1⟩ := r.dk sub; exact .x <| .base (.dK h1)
  | dn xs => cases h; obtain ⟨p, o, es, vs, rfl, h1, h2, _⟩ := r.dn sub; exact .ex h1 h2.ex.1
  | obj c fs =>
    cases h
    obtain ⟨a, dx, vs, rfl, h1, n1, r1⟩ := r.obj sub
    have hc : c ∈ cs := by
      rw [Bool.or_eq_true] at hs
      rcases hs with h | h
      · exact List.contains_iff_mem.mp h
      · cases h
    have kc := k.all c hc
    exact .x <| .base (.ins h1 kc.cl kc.ha kc.hn kc.ht kc.hm)
  | cls t => cases h
  | fn j ds => cases h
  | any => cases h
theorem rep_cls {K : PySem.W.Frag} {kap : Kp} {F H : Hp} {v : V} {t : Ty} (r : RB K kap F H v (.cls t)) : ClsV v (tyVal kap t) := by
  rcases r with r | ⟨p, _, _, h⟩
  · cases r with
    | clsB T => exact .ty T
    | clsO c => exact .own _
  · exact h.elim
theorem sp_isi {K : PySem.W.Frag} {kap : Kp} {cs : List Nat} (k : KitK K kap cs) : SPN K kap (rIsiA K) (fIsi cs) := by
  intro F H xs as z Q sub nt ra e q
  unfold fIsi at e
  split at e
  · rename_i d t
    obtain ⟨s, e1, e⟩ := bind_some e
    split at e
    · rename_i hh
      rw [Bool.and_eq_true] at hh
      cases e
      obtain ⟨x, y, rfl, r1, r2⟩ := two_of ra
      exact ⟨x, y, _, _, _, rfl, rep_cls r2, tyx_of k sub r1 e1 hh.1, kit_ans k hh.1 hh.2, q _ F H New.refl sub (.bl _)⟩
    · cases e
  · cases e
end DL
namespace DL
open PySem L2
section
variable {K : PySem.W.Frag} {kap : Kp} {xi : Xi} {F H : Hp} {sg : St} {de : DEnv} {O : Own?}
def putO (O : Own?) (n i : Nat) (q : Option Addr) : Own? := fun j => if j = i ∧ i < n then q else O j
theorem set_get {α : Type} {l : List α} {i j : Nat} {s t : α} (h : (l.set i s)[j]? = some t) : (j = i ∧ i < l.length ∧ t = s) ∨ ((j ≠ i ∨ l.length ≤ i) ∧ l[j]? = some t) := by
  by_cases q : j = i
  · subst q
    by_cases il : j < l.length
    · rw [List.getElem?_set_self il] at h
      cases h
      exact .inl ⟨rfl, il, rfl⟩
    · rw [List.set_eq_of_length_le (Nat.le_of_not_lt il)] at h
      exact .inr ⟨.inr (Nat.le_of_not_lt il), h⟩
  · rw [List.getElem?_set_ne (Ne.symm q)] at h
    exact .inr ⟨.inl q, h⟩
theorem putO_other {O : Own?} {n i j : Nat} {q : Option Addr} (h : j ≠ i ∨ n ≤ i) : putO O n i q j = O j := by
  unfold putO
  rw [if_neg]
  rintro ⟨h1, h2⟩
  rcases h with h | h
  · exact h h1
  · exact absurd h2 (Nat.not_lt.mpr h)
theorem putO_same {O : Own?} {n i : Nat} {q : Option Addr} (h : i < n) : putO O n i q i = q := by
  unfold putO
  rw [if_pos ⟨rfl, h⟩]
theorem RS.put (R : RS K kap xi F H sg de O) (i : Nat) (x : Option V) (s : Sl) (q : Option Addr)
    (hva : ∀ d, s = .va d → ∃ v, x = some v ∧ Rep K kap F v d)
    (how : ∀ d, s.owd = some d → ∃ p, q = some p ∧ x = some (.ref p) ∧ F p = none ∧ Own K kap F H p d ∧ ∀ j, j ≠ i → O j ≠ some p)
    (hex : ∀ c fs, s = .ex c fs → ∃ (a : Addr) (d : Option Addr), xi = some (.inl (a, Value.ref (kap c), d)) ∧ x = some (.ref a) ∧ XR K kap F d fs)
    (hq : s.owd = none → q = none) (hpl : s.plain = true := by rfl) : RS K kap xi F H (sg.set i x) (de.set i s) (putO O de.length i q) := by
  have sgl : ∀ {j : Nat} {y : V}, (j ≠ i ∨ de.length ≤ i) → sg[j]? = some (some y) → (sg.set i x)[j]? = some (some y) := fun {j y} h e => by
    by_cases z : j = i
    · rcases h with h | h
      · exact absurd z h
      · rw [List.set_eq_of_length_le (by rw [R.len]; exact h)]; exact e
    · rw [List.getElem?_set_ne (Ne.symm z)]; exact e
  have sgs : i < de.length → (sg.set i x)[i]? = some x := fun h => List.getElem?_set_self (by rw [R.len]; exact h)
  refine ⟨by rw [List.length_set, List.length_set]; exact R.len, fun j d e => ?_, fun j t d e h => ?_, fun j c fs e => ?_, fun j p e => ?_, fun j k p e1 e2 => ?_, R.sub, R.nt, R.tab, fun j d e => ?_, R.ghs (Same.refl F) (fun j t d p _ _ h3 => ⟨(R.held h3).1, rfl⟩) fun j t d e h => ?_⟩
  · rcases set_get e with ⟨rfl, il, z⟩ | ⟨n, e⟩
    · obtain ⟨v, h1, h2⟩ := hva d z.symm
      exact ⟨v, by rw [sgs il, h1], h2⟩
    · obtain ⟨v, h1, h2⟩ := R.va j d e
      exact ⟨v, sgl n h1, h2⟩
  · rcases set_get e with ⟨rfl, il, z⟩ | ⟨n, e⟩
    · subst z
      obtain ⟨p, h1, h2, h3, h4, _⟩ := how d h
      exact ⟨p, by rw [putO_same il, h1], by rw [sgs il, h2], h3, h4⟩
    · obtain ⟨p, h1, h2, h3, h4⟩ := R.ow j t d e h
      exact ⟨p, by rw [putO_other n, h1], sgl n h2, h3, h4⟩
  · rcases set_get e with ⟨rfl, il, z⟩ | ⟨n, e⟩
    · obtain ⟨a, d, h1, h2, h3⟩ := hex c fs z.symm
      exact ⟨a, d, h1, by rw [sgs il, h2], h3⟩
    · obtain ⟨a, d, h1, h2, h3⟩ := R.ex j c fs e
      exact ⟨a, d, h1, sgl n h2, h3⟩
  · by_cases z : j = i ∧ i < de.length
    · obtain ⟨rfl, il⟩ := z
      rw [putO_same il] at e
      cases ed : s.owd with
      | none => rw [hq ed] at e; cases e
      | some d => exact ⟨s, d, List.getElem?_set_self il, by rw [(Sl.plain_gh hpl).2, ed]⟩
    · have n : j ≠ i ∨ de.length ≤ i := by
        by_cases w : j = i
        · exact .inr (Nat.le_of_not_lt fun h => z ⟨w, h⟩)
        · exact .inl w
      rw [putO_other n] at e
      obtain ⟨t, d, h1, h2⟩ := R.onl j p e
      refine ⟨t, d, ?_, h2⟩
      rcases n with n | n
      · rw [List.getElem?_set_ne (Ne.symm n)]; exact h1
      · rw [List.set_eq_of_length_le n]; exact h1
  · have key : ∀ {a b : Nat} {p : Addr}, (a = i ∧ i < de.length) → ¬ (b = i ∧ i < de.length) → putO O de.length i q a = some p → putO O de.length i q b = some p → False := fun {a b p} ha hb e1 e2 => by
      obtain ⟨rfl, il⟩ := ha
      rw [putO_same il] at e1
      have nb : b ≠ a := fun z => hb ⟨z, il⟩
      rw [putO_other (.inl nb)] at e2
      cases ed : s.owd with
      | none => rw [hq ed] at e1; cases e1
      | some d =>
        obtain ⟨p', h1, _, _, _, h5⟩ := how d ed
        rw [h1] at e1
        cases e1
        exact h5 b nb e2
    by_cases zj : j = i ∧ i < de.length
    · by_cases zk : k = i ∧ i < de.length
      · rw [zj.1, zk.1]
      · exact (key zj zk e1 e2).elim
    · by_cases zk : k = i ∧ i < de.length
      · exact (key zk zj e2 e1).elim
      · have nn : ∀ {a : Nat}, ¬ (a = i ∧ i < de.length) → a ≠ i ∨ de.length ≤ i := fun {a} z => by
          by_cases w : a = i
          · exact .inr (Nat.le_of_not_lt fun h => z ⟨w, h⟩)
          · exact .inl w
        rw [putO_other (nn zj)] at e1
        rw [putO_other (nn zk)] at e2
        exact R.inj j k p e1 e2
  · rcases set_get e with ⟨rfl, il, z⟩ | ⟨n, e⟩
    · rw [← z] at hpl; cases hpl
    · obtain ⟨me, h1, h2, h3⟩ := R.cn j d e
      exact ⟨me, h1, sgl n h2, h3⟩
  · rcases set_get e with ⟨rfl, il, z⟩ | ⟨n, e⟩
    · rw [z, (Sl.plain_gh hpl).1] at h; cases h
    · exact ⟨e, putO_other n⟩
theorem Go.put {F H : Hp} {de : DEnv} {O : Own?} (i : Nat) (s : Sl) (q : Option Addr) (hs : ∀ d, s ≠ .pn d) (hq : ∀ p, q = some p → (∃ j, O j = some p) ∨ H p = none) : Go F H de O F H (de.set i s) (putO O de.length i q) where
  ex := Same.refl F
  keep := fun _ _ h _ _ => h
  new := fun j a e => by
    unfold putO at e
    split at e
    · exact hq a e
    · exact .inl ⟨j, e⟩
  dom := fun _ h => h
  fnew := fun _ h => .inl h
  pin := fun j d e => by
    rcases set_get e with ⟨rfl, il, z⟩ | ⟨n, e⟩
    · exact absurd z.symm (hs d)
    · exact ⟨putO_other n, d, e⟩
theorem RS.setv (R : RS K kap xi F H sg de O) (i : Nat) {v : V} {d : D} (r : Rep K kap F v d) : RS K kap xi F H (sg.set i (some v)) (de.set i (.va d)) (putO O de.length i none) ∧ Go F H de O F H (de.set i (.va d)) (putO O de.length i none) :=
  ⟨R.put i _ _ none (fun d' e => by cases e; exact ⟨v, rfl, r⟩) (fun _ e => by cases e) (fun _ _ e => by cases e) fun _ => rfl, Go.put i _ none (fun _ e => by cases e) fun _ e => by cases e⟩
def Sl.same (s : Sl) (d : D) : Sl := match s with
  | .pn _ => .pn d
  | _ => .ow d
theorem RS.mut (R : RS K kap xi F H sg de O) {i : Nat} {s : Sl} {d d' : D} {p : Addr} {o : HO} (hi : de[i]? = some s) (hs : s.owd = some d) (hp : O i = some p) (ho : Own K kap F (upd H p o) p d') :
    RS K kap xi F (upd H p o) sg (de.set i (s.same d')) O ∧ Go F H de O F (upd H p o) (de.set i (s.same d')) O := by
  have il : i < de.length := (List.getElem?_eq_some_iff.mp hi).1
  obtain ⟨p', g1, g2, g3, g4⟩ := R.ow i s d hi hs
  rw [hp] at g1
  cases g1
  have hsd : (s.same d').owd = some d' := by
    cases s with
    | ow d0 => rfl
    | pn d0 => rfl
    | _ => cases hs
  have neq : ∀ a u, F a = some u → a ≠ p := fun a u e z => by rw [z, g3] at e; cases e
  refine ⟨⟨by rw [List.length_set]; exact R.len, fun j e h => ?_, fun j t e h1 h2 => ?_, fun j c fs h => ?_, fun j q h => ?_, R.inj, fun a u e => by rw [upd_ne (neq a u e)]; exact R.sub a u e, R.nt, g4.tabs ho R.tab, fun j e h => ?_, R.ghs (Same.refl F) (fun j t e q h1 h2 h3 => ⟨(R.held h3).1, upd_ne fun z => ?_⟩) fun j t e h1 h2 => ?_⟩, ⟨Same.refl F, fun a u h _ n => ?_, fun j a h => .inl ⟨j, h⟩, fun a h => ?_, fun _ h => .inl h, fun j e h => ?_⟩⟩
  · rcases set_get h with ⟨rfl, _, z⟩ | ⟨n, h⟩
    · exfalso; rw [← z] at hsd; cases hsd
    · exact R.va j e h
  · rcases set_get h1 with ⟨rfl, _, z⟩ | ⟨n, h1⟩
    · rw [z, hsd] at h2
      cases h2
      exact ⟨p, hp, g2, g3, ho⟩
    · obtain ⟨q, k1, k2, k3, k4⟩ := R.ow j t e h1 h2
      have : q ≠ p := fun z => by
        have : j = i := R.inj j i p (by rw [k1, z]) hp
        rcases n with n | n
        · exact n this
        · exact absurd il (Nat.not_lt.mpr n)
      exact ⟨q, k1, k2, k3, k4.mono (Same.refl F) (upd_ne this)⟩
  · rcases set_get h with ⟨rfl, _, z⟩ | ⟨n, h⟩
    · exfalso; rw [← z] at hsd; cases hsd
    · exact R.ex j c fs h
  · obtain ⟨t, e, h1, h2⟩ := R.onl j q h
    by_cases z : j = i
    · subst z
      exact ⟨s.same d', d', List.getElem?_set_self il, Sl.hld_of (.inl hsd)⟩
    · exact ⟨t, e, by rw [List.getElem?_set_ne (Ne.symm z)]; exact h1, h2⟩
  · rcases set_get h with ⟨rfl, _, z⟩ | ⟨n, h⟩
    · exfalso; rw [← z] at hsd; cases hsd
    · exact R.cn j e h
  · have := R.inj j i p (by rw [h3, z]) hp
    subst this
    rw [hi] at h1
    cases h1
    cases s with
    | ow d0 => cases h2
    | pn d0 => cases h2
    | _ => cases hs
  · rcases set_get h1 with ⟨rfl, _, z⟩ | ⟨n, h1⟩
    · exfalso; rw [z] at h2; cases s with
      | ow d0 => cases h2
      | pn d0 => cases h2
      | _ => cases hs
    · exact ⟨h1, rfl⟩
  · rw [upd_ne fun z => n i (by rw [hp, z])]; exact h
  · by_cases z : a = p
    · subst z; rw [upd_same] at h; cases h
    · rw [upd_ne z] at h; exact h
  · rcases set_get h with ⟨rfl, _, z⟩ | ⟨n, h⟩
    · refine ⟨rfl, ?_⟩
      cases s with
      | pn d0 => exact ⟨d0, hi⟩
      | _ => cases z
    · exact ⟨rfl, e, h⟩
end
def vSkip (de : DEnv) : Ot := .nx de
def vSeq (e1 e2 : DEnv → Ot) (de : DEnv) : Ot := (e1 de).andThen e2
def vSet (i : Nat) (ev : DEnv → Rs D) (de : DEnv) : Ot := (ev de).out fun d de' => .nx (de'.set i (.va d))
def vSetF (i : Nat) (ev : DEnv → Rs D) (de : DEnv) : Ot := (ev de).out fun d de' => .nx (de'.set i (.ow d))
def vIf (c : DEnv → Rs Bool) (e1 e2 : DEnv → Ot) (de : DEnv) : Ot := (c de).out fun b de' => if b = true then e1 de' else e2 de'
def vRet (ev : DEnv → Rs D) (de : DEnv) : Ot := (ev de).out fun d de' => .ret d de'
def vRetF (ev : DEnv → Rs D) (de : DEnv) : Ot := (ev de).out fun d de' => .retF d de'
def vBrk (de : DEnv) : Ot := .brk de
section
variable {kap : Kp} {xi : Xi} {X : Cx} {W : WX} {e c : Expr} {st : Stmt} {sts a b : List Stmt} {t : WX → TE} {tc : WX → TT} {ts tr : WX → TS} {ev : DEnv → Rs D} {bv : DEnv → Rs Bool} {e1 e2 : DEnv → Ot} {pos : Pos}
theorem jssNil : JSs kap xi X W [] (fun _ => tNext) vSkip := ⟨pss_nil, fun W F H sg de O Dn R hp => hp F H sg O R Go.refl⟩
theorem snd_seq {K : PySem.W.Frag} (h1 : SndS K kap xi ts e1) (h2 : SndS K kap xi tr e2) : SndS K kap xi (fun W => tSeq (ts W) (tr W)) (vSeq e1 e2) := by
  intro W F H sg de O Dn R hp
  refine h1 W F H sg de O _ R ?_
  unfold vSeq at hp
  cases e : e1 de with
  | nx de1 => rw [e] at hp; exact fun F' H' sg' O' R' g => h2 W F' H' sg' de1 O' Dn R' (hp.shift g)
  | ret d de1 => rw [e] at hp; exact hp
  | retF d de1 => rw [e] at hp; exact hp
  | brk de1 => rw [e] at hp; exact hp
  | ct de1 => rw [e] at hp; exact hp
  | ex c fs de1 => rw [e] at hp; exact hp
  | bad => rw [e] at hp; exact hp
theorem jssCons (h1 : JS kap xi X W st ts e1) (h2 : JSs kap xi X W sts tr e2) : JSs kap xi X W (st :: sts) (fun W => tSeq (ts W) (tr W)) (vSeq e1 e2) := ⟨pss_cons h1.p h2.p, snd_seq h1.s h2.s⟩
theorem jssOne (h1 : JS kap xi X W st ts e1) : JSs kap xi X W [st] ts e1 := ⟨pss_one h1.p, h1.s⟩
theorem jSet (i : Nat) {x : Str} {pos' : Pos} (hN : X.N.Nodup) (h : JE kap xi X W e t ev) (hi : X.N[i]? = some x := by rfl) (hx : Loc X.env.scope x := by first | exact Or.inl rfl | exact Or.inr rfl) (hs : swapsWith e (some (.Name x pos')) pos.line X.env = pure false := by rfl)
    (hf : X.fn x = true ∨ X.env.scope.names.lookup x = some .local := by first | exact .inl rfl | exact .inr rfl | assumption) : JS kap xi X W (.Assign [.Name x pos'] e pos) (fun W => tAsg (t W) (gName i)) (vSet i ev) := ⟨ps_set hN hi hx h.p hs hf, by
  intro W F H sg de O Dn R hp
  refine h.s.out R hp fun v d F1 H1 de1 O1 R1 g1 r _ hp => ?_
  obtain ⟨R2, g2⟩ := R1.setv i r
  exact hp F1 H1 _ _ R2 g2⟩
theorem jSetF (i : Nat) {x : Str} {pos' : Pos} (hN : X.N.Nodup) (h : JF kap xi X W e t ev) (hi : X.N[i]? = some x := by rfl) (hx : Loc X.env.scope x := by first | exact Or.inl rfl | exact Or.inr rfl) (hs : swapsWith e (some (.Name x pos')) pos.line X.env = pure false := by rfl)
    (hf : X.fn x = true ∨ X.env.scope.names.lookup x = some .local := by first | exact .inl rfl | exact .inr rfl | assumption) : JS kap xi X W (.Assign [.Name x pos'] e pos) (fun W => tAsg (t W) (gName i)) (vSetF i ev) := ⟨ps_set hN hi hx h.p hs hf, by
  intro W F H sg de O Dn R hp
  refine h.s W F H sg de O _ R ?_
  unfold vSetF at hp
  cases e : ev de with
  | ok d de1 =>
    rw [e] at hp
    intro v F1 H1 O1 R1 g1 r org
    obtain ⟨p, rfl, f1, f2, f3⟩ := r
    have hp' : PS1 X.K kap xi F H de O W Dn (.nx (de1.set i (.ow d))) := hp
    have R2 := R1.put i (some (.ref p)) (.ow d) (some p) (fun d' e => by cases e) (fun d' e => by cases e; exact ⟨p, rfl, rfl, f1, f2, fun j _ => f3 j⟩) (fun _ _ e => by cases e) (fun e => by cases e)
    refine hp' F1 H1 _ _ R2 ⟨g1.ex, g1.keep, fun j a z => ?_, g1.dom, g1.fnew, fun j d' z => ?_⟩
    · unfold putO at z
      split at z
      · cases z; exact (org _ rfl).symm
      · exact g1.new j a z
    · rcases set_get z with ⟨rfl, il, z⟩ | ⟨n, z⟩
      · cases z
      · rw [putO_other n]; exact g1.pin j d' z
  | ex c fs de1 => rw [e] at hp; exact hp
  | bad => rw [e] at hp; exact hp⟩
theorem jIf (hc : JT kap xi X W c tc bv) (h1 : JSs kap xi X W a ts e1) (h2 : JSs kap xi X W b tr e2) : JS kap xi X W (.If c a b pos) (fun W => tIfS (tc W) (ts W) (tr W)) (vIf bv e1 e2) := ⟨ps_if hc.p h1.p h2.p, by
  intro W F H sg de O Dn R hp
  refine hc.s.out R hp fun v d F1 H1 de1 O1 R1 g1 r _ hp => ?_
  cases (show v = d from r)
  cases v with
  | true => exact iteT (h1.s W F1 H1 sg de1 O1 Dn R1 hp)
  | false => exact iteF (h2.s W F1 H1 sg de1 O1 Dn R1 hp)⟩
theorem jRet (h : JE kap xi X W e t ev) : JS kap xi X W (.Return (some e) pos) (fun W => tRet (t W)) (vRet ev) := ⟨ps_ret h.p, by
  intro W F H sg de O Dn R hp
  refine h.s.out R hp fun v d F1 H1 de1 O1 R1 g1 r _ hp => ?_
  exact hp v F1 H1 sg O1 R1 Go.refl r⟩
theorem jRetF (h : JF kap xi X W e t ev) : JS kap xi X W (.Return (some e) pos) (fun W => tRet (t W)) (vRetF ev) := ⟨ps_ret h.p, by
  intro W F H sg de O Dn R hp
  refine h.s W F H sg de O _ R ?_
  unfold vRetF at hp
  cases e : ev de with
  | ok d de1 =>
    rw [e] at hp
    intro v F1 H1 O1 R1 g1 r org
    exact hp v F1 H1 sg O1 R1 g1 r org
  | ex c fs de1 => rw [e] at hp; exact hp
  | bad => rw [e] at hp; exact hp⟩
theorem jBrk : JS kap xi X W (.Break pos) (fun _ => tBreak) vBrk := ⟨ps_break, fun W F H sg de O Dn R hp => hp F H sg O R Go.refl⟩
end
def slotOw (i : Nat) (de : DEnv) : Option (Sl × D) := (de[i]?).bind fun s => s.owd.map fun d => (s, d)
def isLst : D → Bool
  | .lst _ => true
  | _ => false
def putL (i : Nat) (v k : D) (de : DEnv) : Ot :=
  match slotOw i de with
  | some (s, .lst ds) => (match (asI k).bind fun k => ixN ds.length k with
    | some j => .nx (de.set i (s.same (.lst (ds.set j v))))
    | none => .bad)
  | _ => .bad
def vSetIx (i : Nat) (evv : DEnv → Rs D) (evk : DEnv → Rs D) (de : DEnv) : Ot :=
  (evv de).out fun v de1 => if ((slotAt i de1).map isLst).getD false = true then (evk de1).out fun k de2 => putL i v k de2 else .bad
section
variable {K : PySem.W.Frag} {kap : Kp} {xi : Xi} {F H : Hp} {sg : St} {de : DEnv} {O : Own?} {W : WX}
theorem RS.owl (R : RS K kap xi F H sg de O) {i : Nat} {s : Sl} {d : D} (h : slotOw i de = some (s, d)) : de[i]? = some s ∧ s.owd = some d ∧ ∃ p, O i = some p ∧ sg[i]? = some (some (.ref p)) ∧ F p = none ∧ Own K kap F H p d := by
  obtain ⟨t, h1, h2⟩ := bind_some h
  obtain ⟨d', h3, h4⟩ := Option.map_eq_some_iff.mp h2
  cases h4
  exact ⟨h1, h3, R.ow i _ _ h1 h3⟩
end
section
variable {kap : Kp} {xi : Xi} {X : Cx} {W : WX} {e ek o : Expr} {es : List Expr} {t tk : WX → TE} {ta : WX → TA} {ev evk : DEnv → Rs D} {ea : DEnv → Rs (List D)} {pos pos' cpos apos : Pos}
theorem jSetIx (i : Nat) {x : Str} {xp : Pos} (hv : JE kap xi X W e t ev) (hk : JE kap xi X W ek tk evk) (hN : X.N[i]? = some x := by rfl) (hvis : Vis X.env.scope x := by first | exact Or.inl rfl | exact Or.inr (Or.inl rfl) | exact Or.inr (Or.inr rfl))
    (hd : (x == ("__debug__" : Str)) = false := by decide) (hcd : (x == ("__classdict__" : Str)) = false := by decide)
    (ha : ∀ v, assign (.Subscript (.Name x xp) ek pos') X.env v = (do let ov ← holding [v] (eval (.Name x xp) X.env); let iv ← holding [v, ov] (eval ek X.env); standAt pos'; holding [v, ov, iv] (setItem ov iv v); release [v, ov, iv] []) := by intro _; rfl)
    (hs : swapsWithSole [.Subscript (.Name x xp) ek pos'] e pos.line X.env = pure false := by rfl) (hw : swappedStores [.Subscript (.Name x xp) ek pos'] e X.env = pure none := by rfl) :
    JS kap xi X W (.Assign [.Subscript (.Name x xp) ek pos'] e pos) (fun W => tAsg (t W) (gSub (tVar i) (tk W) rSetL)) (vSetIx i ev evk) := ⟨ps_asg hv.p (pg_sub (pe_var hN hvis hd hcd) hk.p set_list ha) hs hw, by
  intro W F H sg de O Dn R hp
  refine hv.s.out R hp fun v d F1 H1 de1 O1 R1 g1 r _ hp => ?_
  split at hp
  · rename_i hsl
    cases e0 : slotAt i de1 with
    | none => rw [e0] at hsl; cases hsl
    | some d0 =>
      obtain ⟨u, hu, _⟩ := R1.rb e0
      refine ⟨u, hu, ?_⟩
      refine hk.s.out R1 hp fun k' k F2 H2 de2 O2 R2 g2 rk _ hp => ?_
      unfold putL at hp
      split at hp
      · rename_i s ds eo
        split at hp
        · rename_i j ek
          obtain ⟨e1, e2, p, h1, h2, h3, vs, h4, h5⟩ := R2.owl eo
          obtain ⟨k0, e3, e4⟩ := bind_some ek
          rw [hu] at h2
          cases h2
          refine ⟨p, vs, k0, j, rfl, rep_int rk e3, h4, by rw [Reps.length h5]; exact e4, ?_⟩
          have rr : Rep X.K kap F2 v d := Rep.mono g2.ex r
          obtain ⟨R3, g3⟩ := R2.mut (o := .lst (vs.set j v)) (d' := .lst (ds.set j d)) e1 e2 h1 ⟨_, upd_same, Reps.set rr j h5⟩
          exact hp F2 _ sg O2 R3 g3
        · exact hp.elim
      · exact hp.elim
  · exact hp.elim⟩
end
end DL
namespace DL
open PySem L2 PySem.Spec PyProof.Rows
structure RoomG (k : Nat) (A : Around) : Prop where
  r : Room k A
  g : A.guards = some []
theorem RoomG.mono {j k : Nat} {A : Around} (r : RoomG k A) (h : j ≤ k) : RoomG j A := ⟨r.r.mono h, r.g⟩
theorem RoomG.un {k : Nat} {A : Around} (r : RoomG k A) : A.units + 16 * k + 200 < cLine := r.r.un
theorem RoomG.hd {k : Nat} {A : Around} (r : RoomG k A) : A.handled = none := r.r.hd
theorem RoomG.deeper {k : Nat} {A : Around} (r : RoomG (k + 1) A) (env : Env) : RoomG k (A.deeper env) := ⟨r.r.deeper env, r.g⟩
theorem RoomG.make {k : Nat} {A : Around} (r : RoomG (k + 1) A) (C : Addr) (us : List Value) (kw : List (Str × Value)) : RoomG k (A.under (.builtin "type.__call__" ⟨.ref C :: us, kw⟩)) :=
  ⟨r.r.make C us kw, by
    have h : (A.under (.builtin "type.__call__" ⟨.ref C :: us, kw⟩)).guards = A.guards := by first | rfl | simp [Around.under, Code.guards, Code.isGuard, guardIds, pushGuards]
    rw [h]; exact r.g⟩
structure FnG (P : Program) (w : World) (K : PySem.W.Frag) (mg : Str → Option Value) (base : Heap) (CX : CXT) (k : Nat) (f : Addr) (fd : FuncData) (ps : List Str) (sp : Sp) : Prop where
  len : ∀ vs H Q E, sp vs H Q E → vs.length = ps.length
  run : ∀ (A : Around) (outer : List Env) (s : Shared) (H : Hp) (args : Args) (us : List Value) (vs : List V) (Q : VK) (E : XK), RoomG k A → Env0 P w K mg base A outer s H → BindsTo s fd args (ps.zip us) → Vals vs us → sp vs H Q E →
    codeAny (model P w) A (.call (.ref f) args) (CR CX outer P w H s Q E) s
theorem FnG.mono {P : Program} {w : World} {K : PySem.W.Frag} {mg : Str → Option Value} {base : Heap} {CX : CXT} {j k : Nat} {f : Addr} {fd : FuncData} {ps : List Str} {sp : Sp} (F : FnG P w K mg base CX j f fd ps sp) (h : j ≤ k) : FnG P w K mg base CX k f fd ps sp :=
  ⟨F.len, fun A outer s H args us vs Q E hr => F.run A outer s H args us vs Q E (hr.mono h)⟩
theorem FnG.imp {P : Program} {w : World} {K : PySem.W.Frag} {mg : Str → Option Value} {base : Heap} {CX : CXT} {k : Nat} {f : Addr} {fd : FuncData} {ps : List Str} {sp sp' : Sp} (F : FnG P w K mg base CX k f fd ps sp) (h : ∀ vs H Q E, sp' vs H Q E → sp vs H Q E) : FnG P w K mg base CX k f fd ps sp' :=
  ⟨fun vs H Q E q => F.len vs H Q E (h _ _ _ _ q), fun A outer s H args us vs Q E hr he hb hv hs => F.run A outer s H args us vs Q E hr he hb hv (h _ _ _ _ hs)⟩
theorem fnG_of {CX : CXT} {P : Program} {w : World} {K : PySem.W.Frag} {mg : Str → Option Value} {base : Heap} {k : Nat} {f : Addr} {name qual : Str} {params : Arguments} {body : List Stmt} {scope : Scope} {dV kV doc pm cdv ct oc : Value} {an od : Option Addr}
    {osl : Array (Option Value)} {N ps : List Str} {sp : Sp} (lk : K.lookup f = some ⟨oc, od, .func (PySem.W.fnOf name qual params body scope dV kV doc pm an cdv ct), osl⟩) (hcd : PySem.W.codeIn K cdv qual = true) (S : FnScope N ps scope)
    (len : ∀ vs H Q E, sp vs H Q E → vs.length = ps.length)
    (hbody : ∀ (A : Around) (outer : List Env) (s : Shared) (H : Hp) (vs : List V) (Q : VK) (E : XK), RoomG k (A.deeper (envOfC qual scope s.heap.objs.size f cdv)) → sp vs H Q E →
      ∃ t, PSs (cxOf CX P w K mg base N qual scope f cdv A outer s H E) body t ∧ t { nx := fun _ H' => Q .non H', rt := Q } (start N vs) H) :
    FnG P w K mg base CX (k + 1) f (PySem.W.fnOf name qual params body scope dV kV doc pm an cdv ct) ps sp :=
  ⟨len, fun A outer s H args us vs Q E hr e0 hb r hsp => by
    have KX : K.In s.heap := e0.mod.kin.keeps fun b o e => (e0.bs b o e).1
    have kinds : ∀ y ∈ ps.zip us, scope.names.lookup y.1 = some .local ∨ (scope.names.lookup y.1 = some .cell ∧ ((cellsFrom (s.heap.objs.size + 1) scope.names []).lookup y.1).isSome = true) := by
      rintro ⟨n, v⟩ hy
      exact (S.par n (List.of_mem_zip hy).1).imp id fun q => ⟨q, PySem.W.cellsFrom_some _ _ _ (.inl q)⟩
    refine codeAny_call_function hr.r.depth (KX _ _ lk) rfl S.co S.gen rfl (PySem.W.codeRec_of KX hcd) (hb _ _ _ _ (wpAny_newFunctionEnv_cells S.kind kinds fun env he s1 x => ?_))
    subst he
    refine ⟨Heap.NoLimit.keeps (e0.mod.nolimit.keeps fun b o e => (e0.bs b o e).1) x.toInCall.keep, codeAny_func ?_⟩
    obtain ⟨t, ht, hq⟩ := hbody A outer s H vs Q E (hr.deeper _) hsp
    refine wpAny_mono (ht.run [] s1 (start N vs) H _ (inv_start S hr.r.hd e0 (len _ _ _ _ hsp) r x) hq) (fun fl s' hs => ?_) fun e s' hs => hs
    cases fl with
    | ret u => obtain ⟨v, σ', H', J, rv, q⟩ := hs; exact ⟨v, H', J.os, J.bare, J.base, J.hok, rv, q⟩
    | next => obtain ⟨σ', H', J, q⟩ := hs; exact ⟨.non, H', J.os, J.bare, J.base, J.hok, rfl, q⟩
    | brk => obtain ⟨_, _, _, q⟩ := hs; exact q.elim
    | cont => obtain ⟨_, _, _, q⟩ := hs; exact q.elim⟩
theorem fun_okG {P : Program} {w : World} {K : PySem.W.Frag} {mg : Str → Option Value} {base : Heap} {x qual : Str} {st : Stmt} {f : Addr} {fd : FuncData} {N ps : List Str} {k : Nat} {sp : Sp} (F : Fun K x qual st f fd) (S : FnScope N ps (defScope st)) (len : ∀ vs H Q E, sp vs H Q E → vs.length = ps.length)
    (hbody : ∀ (cdv : Value) (A : Around) (outer : List Env) (s : Shared) (H : Hp) (vs : List V) (Q : VK) (E : XK), RoomG k (A.deeper (envOfC qual (defScope st) s.heap.objs.size f cdv)) → sp vs H Q E →
      ∃ t, PSs (cxOf (L2.CX P w) P w K mg base N qual (defScope st) f cdv A outer s H E) (defBody st) t ∧ t { nx := fun _ H' => Q .non H', rt := Q } (start N vs) H) : FnG P w K mg base (L2.CX P w) (k + 1) f fd ps sp := by
  obtain ⟨oc, od, kV, doc, pm, an, cdv, ct, osl, rfl, lk, hcd⟩ := F.ex
  exact fnG_of lk hcd S len fun A outer s H vs Q E hr hsp => hbody cdv A outer s H vs Q E hr hsp
section
variable {X : Cx} {CX : CXT} {k : Nat} {f : Addr} {fd : FuncData} {ps : List Str} {ds : List Value} {dvs : List V} {sp : Sp} {E : L2.St → XK} {x : Str} {p pos : Pos} {e : Expr} {es : List Expr} {t : TA}
theorem run_fnG {pins : List (Addr × Obj)} {σ : L2.St} {H : Hp} {s : Shared} {Q : VK} {us : List Value} {vs : List V} (F : FnG X.prog X.w X.K X.mg X.base CX k f fd ps sp) (hr : RoomG k X.A) (hb : Binds X.K fd ps ds) (hd : Vals dvs ds) (hx : PassesAt CX X σ (E σ))
    (I : Inv X pins σ H s) (r : Vals vs us) (h : sp (vs ++ dvs) H Q (E σ)) : wpAny (model X.prog X.w) X.A (call (.ref f) us) (EP X pins σ Q) X.xe s := by
  have r2 := r.append hd
  refine wpAny_call (codeAny_mono (F.run X.A X.stack s H ⟨us, []⟩ (us ++ ds) (vs ++ dvs) Q (E σ) hr I.env0 (hb s us I.kIn (by rw [← r2.length]; exact F.len _ _ _ _ h)) r2 h) fun r s' hq => ?_)
  cases r with
  | error e => exact hx pins H s e s' I hq
  | ok fl => cases fl with
    | ret u => exact I.after hq
    | next => exact hq.elim
    | brk => exact hq.elim
    | cont => exact hq.elim
theorem pe_callG (F : FnG X.prog X.w X.K X.mg X.base CX k f fd ps sp) (hr : RoomG k X.A) (hg : Gl X x) (hm : X.mg x = some (.ref f)) (hk : PySem.W.keepIn X.K (.ref f) = true) (hb : Binds X.K fd ps ds) (hd : Vals dvs ds) (hx : ∀ σ, PassesAt CX X σ (E σ))
    (ha : PA X (e :: es) t) (hdb : (x == ("__debug__" : Str)) = false := by decide) (he : starEach (e :: es) X.env = (false, eval e X.env) :: starEach es X.env := by rfl) (hpl : (backTo pos (starEach es X.env)).any (·.1) = false := by rfl) :
    PE X (.Call (.Name x p) (e :: es) [] pos) (tCallSD sp dvs E t) :=
  ⟨fun pins s σ H Q I h => wpAny_Call_Name_kw (ld_glob I hg hm (PySem.W.callWith_K (h₀ := X.base) I.ok.mod.kin hk (thn (ha.run pos pins s σ H _ I h) fun us s1 ⟨vs, H1, I1, r, q⟩ => ⟨I1.kIn, run_fnG F hr hb hd (hx σ) I1 r q⟩) he hpl) hdb)⟩
end
def SmB (base : Heap) : Prop := ∃ mm, base.Ns sysModules mm
theorem lawG_call {P : Program} {w : World} {K : PySem.W.Frag} {mg mb : Str → Option Value} {CX : CXT} {k : Nat} {fa a : Addr} {fd : FuncData} {x : Str} {sp : Sp} {s₁ : Shared} {vs : List Value} {ns : List Int}
    (KX : K.In s₁.heap) (hns : s₁.heap.Ns mainGlobals mg) (hb : s₁.heap.Ns builtinsNs mb) (hbb : ∀ x : Str, x ≠ "__name__" → mb x = bootBuiltins x) (hlim : s₁.heap.NoLimit) (hg : s₁.gens = #[])
    (ha : s₁.heap.get? a = some { cls := .type "list", data := .seq vs.toArray }) (hi : IntsAre vs ns) (hl : ns.length ≤ sizeLine) (hr : RoomG k callerA)
    (hsm : SmB s₁.heap) (F : ∀ base : Heap, K.In base → base.Ns mainGlobals mg → SmB base → FnG P w K mg base CX k fa fd [x] sp) (hbind : ∀ (s : Shared) (u : Value), BindsTo s fd ⟨[u], []⟩ [(x, u)])
    (hsp : ∀ H : Hp, Only H → SqL K H a (ns.map V.int) → sp [.ref a] H (fun v _ => v = .bl true) fun _ _ _ => False)
    (hCX : ∀ H e s', CX [] H s₁ (fun _ _ _ => False) e s' → False) :
    codeAny (model P w) callerA (.call (.ref fa) ⟨[.ref a], []⟩) (fun r s' => r = .ok (.ret (.bool true)) ∧ OldK s₁.heap s'.heap ∧ s'.os = s₁.os ∧ AllBare s'.gens) s₁ := by
  have rv := vals_ints hi
  have main : ∀ H : Hp, Only H → SqL K H a (ns.map V.int) → HOk P w H s₁.heap → (∀ b, H b ≠ none → b = a) → (H a ≠ none → K.lookup a = none) →
      codeAny (model P w) callerA (.call (.ref fa) ⟨[.ref a], []⟩) (fun r s' => r = .ok (.ret (.bool true)) ∧ OldK s₁.heap s'.heap ∧ s'.os = s₁.os ∧ AllBare s'.gens) s₁ := by
    intro H hO hS hok hA hK
    have free : ∀ {b : Addr}, b ≠ a → H b = none := fun {b} n => by
      cases q : H b with
      | none => rfl
      | some u => exact absurd (hA b (by rw [q]; simp)) n
    have ns_ : ∀ {b : Addr} {m : Str → Option Value}, s₁.heap.Ns b m → (hidT s₁.heap H).Ns b m := fun {b m} ⟨o, es, ep, e, d, r⟩ => ⟨o, es, ep, hidT_get e (free fun z => by rw [z, ha] at e; cases e; cases d), d, r⟩
    have kb : K.In (hidT s₁.heap H) := fun b o e => hidT_get (KX b o e) (by
      by_cases z : b = a
      · cases q : H b with
        | none => rfl
        | some u => rw [z] at q e; rw [hK (by rw [q]; simp)] at e; cases e
      · exact free z)
    have hM : Mod K mg (hidT s₁.heap H) := ⟨kb, ns_ hns, ⟨mb, ns_ hb, hbb⟩, let ⟨mc, h1, h2⟩ := hlim; ⟨mc, ns_ h1, h2⟩⟩
    have nof : ∀ b : Addr, b ∉ ([] : List Addr) := fun b z => (by cases z)
    have e0 : Env0 P w K mg (hidT s₁.heap H) callerA [] s₁ H := ⟨rfl, hM, fun b o e => of_hidT e, Nat.le_of_eq (hidT_size _ _), trivial, fun b z => absurd z (nof b), hok, .of_eq hg⟩
    refine codeAny_mono ((F _ kb (ns_ hns) (hsm.imp fun _ => ns_)).run callerA [] s₁ H ⟨[.ref a], []⟩ [.ref a] [.ref a] _ _ hr e0 (hbind s₁ (.ref a)) (.cons rfl .nil) (hsp H hO hS)) fun r s' h => ?_
    rcases r with e | fl
    · exact (hCX H e s' h).elim
    · cases fl with
      | next => exact h.elim
      | brk => exact h.elim
      | cont => exact h.elim
      | ret u =>
        obtain ⟨v, H', os, bare, un, hok', rv', q⟩ := h
        cases (show v = .bl true from q)
        cases (show u = Value.bool true from rv')
        refine ⟨rfl, OldK.of_keep fun b o e => ?_, os, bare⟩
        rcases hO b with z | ⟨ob, xs, z⟩
        · exact un.keep b o e z (nof b) (nof b)
        · obtain ⟨e1, _⟩ := hok b _ z
          obtain ⟨e2, _⟩ := hok' b _ (un.frzs b ob _ z)
          rw [e] at e1
          cases e1
          exact e2
  cases hk : K.lookup a with
  | some o =>
    have e := KX a o hk
    rw [ha] at e
    cases e
    exact main (fun _ => none) (fun _ => .inl rfl) (.inr ⟨_, vs.toArray, _, hk, rfl, rfl, rfl, by rw [List.size_toArray, hi.length]; exact hl, by simpa using rv⟩) (fun b u z => by cases (show (none : Option HO) = some u from z)) (fun b z => absurd rfl z) fun z => absurd rfl z
  | none =>
    have at_ : ∀ {b : Addr} {u : HO}, (if b = a then some (HO.frz { cls := .type "list", data := .seq vs.toArray } (.lst (ns.map V.int))) else none) = some u → b = a ∧ u = HO.frz { cls := .type "list", data := .seq vs.toArray } (.lst (ns.map V.int)) := fun {b u} z => by
      by_cases hb : b = a
      · rw [if_pos hb] at z; cases z; exact ⟨hb, rfl⟩
      · rw [if_neg hb] at z; cases z
    refine main (fun b => if b = a then some (.frz { cls := .type "list", data := .seq vs.toArray } (.lst (ns.map V.int))) else none) (fun b => ?_) (.inl (.inr ⟨_, if_pos rfl⟩)) (fun b u z => ?_) (fun b z => ?_) fun _ => hk
    · by_cases hb : b = a
      · exact .inr ⟨_, _, if_pos hb⟩
      · exact .inl (if_neg hb)
    · obtain ⟨hb, hu⟩ := at_ z
      subst hb hu
      exact ⟨ha, by rw [List.length_map]; exact hl, vs, _, rv, ha⟩
    · by_cases hb : b = a
      · exact hb
      · exact absurd (if_neg hb) z
theorem walkG_of {l : PySem.W.OpenLaw} {n k : Nat} {q : Program} {loose : List Str} {XP : (Str → Option Value) → Heap → Prop} {YP : World → Heap → Prop} {d : DefRec} {K : Params → PySem.W.Frag} {CX : World → CXT} {sp : World → Sp} {x : Str}
    (hn : l.most = some n) (hn2 : n ≤ sizeLine) (hdf : d.params.defaults = []) (hr : RoomG k callerA) (him : importsNone q = true)
    (hY : ∀ (w : World) (h : Heap), YP w h → (K w.params).In h)
    (F : ∀ (w : World) (mg : Str → Option Value) (fa : Addr) (h : Heap), (K w.params).In h → h.Ns mainGlobals mg → mg d.name = some (.ref fa) →
      ∃ fd : FuncData, (∀ (s : Shared) (u : Value), BindsTo s fd ⟨[u], []⟩ [(x, u)]) ∧
        ∀ base : Heap, (K w.params).In base → base.Ns mainGlobals mg → SmB base → FnG l.prog w (K w.params) mg base (CX w) k fa fd [x] (sp w))
    (hsp : ∀ (w : World) (H : Hp) (a : Addr) (ns : List Int), ns.length ≤ n → Only H → SqL (K w.params) H a (ns.map V.int) → sp w [.ref a] H (fun v _ => v = .bl true) fun _ _ _ => False)
    (hCX : ∀ (w : World) (H : Hp) (s : Shared) (e : Value) (s' : Shared), CX w [] H s (fun _ _ _ => False) e s' → False) :
    PySem.W.WalkO q loose XP YP l.row.toRowW d [] (fun f vs => PySem.call f vs) := by
  refine Att.attach_call hn hdf fun w s₀ s₁ mg mb fa o pm cd doc a vs ns G Y ho hd hcd hmg hobj hints hlen hg => ?_
  obtain ⟨fd, hb, hF⟩ := F w mg fa _ (hY w _ Y) G.T.g hmg
  exact lawG_call (hY w _ Y) G.T.g G.T.b G.T.builtins G.T.nolimit hg hobj hints (Nat.le_trans hlen hn2) hr ((G.T.seer him).mods.imp fun _ h => h.1) hF hb (fun H hO hS => hsp w H a ns hlen hO hS) fun H e s' => hCX w H s₁ e s'
end DL
namespace DL
open PySem L2
open PySem.Spec PyProof.Rows in
abbrev envC := @envOfC
inductive Fo where
  | ret (d : D) (q : Option D) | retF (d : D) (q : Option D) | ex (c : Nat) (fs : List (Str × D)) (q : Option D) | bad
section
variable (K : PySem.W.Frag) (kap : Kp) (F H : Hp) (mu : Option Nat)
structure ArgR (vs : List V) (ds : List D) (P : Option Addr) : Prop where
  len : vs.length = ds.length
  va : ∀ (i : Nat) (d : D), ds[i]? = some d → mu ≠ some i → ∃ v, vs[i]? = some v ∧ Rep K kap F v d
  ow : ∀ (k : Nat) (d : D), mu = some k → ds[k]? = some d → ∃ p, P = some p ∧ vs[k]? = some (V.ref p) ∧ F p = none ∧ Own K kap F H p d
  no : P ≠ none → ∃ k d, mu = some k ∧ ds[k]? = some d
structure FPost (F' H' : Hp) (P : Option Addr) (q : Option D) : Prop where
  ex : Same F F'
  sub : Same F' H'
  keep : ∀ a o, H a = some o → (∀ ps, o ≠ .tbl ps) → P ≠ some a → H' a = some o
  dom : ∀ a, H' a = none → H a = none
  fnew : ∀ a, F' a ≠ none → F a ≠ none ∨ H a = none
  own : ∀ p, P = some p → ∃ d, q = some d ∧ F' p = none ∧ Own K kap F' H' p d
  nt : NTF F'
  tab : TabsL kap.tab H'
structure St0 : Prop where
  sub : Same F H
  nt : NTF F
  tab : TabsL kap.tab H
end
theorem RS.st0 {K : PySem.W.Frag} {kap : Kp} {xi : Xi} {F H : Hp} {sg : St} {de : DEnv} {O : Own?} (R : RS K kap xi F H sg de O) : St0 kap F H := ⟨R.sub, R.nt, R.tab⟩
theorem FPost.st0 {K : PySem.W.Frag} {kap : Kp} {F H F' H' : Hp} {P : Option Addr} {q : Option D} (f : FPost K kap F H F' H' P q) : St0 kap F' H' := ⟨f.sub, f.nt, f.tab⟩
theorem FPost.borrow {K : PySem.W.Frag} {kap : Kp} {F H F' H' : Hp} {q : Option D} (f : FPost K kap (nT H) H F' H' none q) (sub : Same F H) (nx : NX kap F H) : New kap.tab F H F H' ∧ Same F H' :=
  ⟨⟨Same.refl F, fun a o h n => f.keep a o h n (by simp), fun _ h => .inl h, f.dom, fun _ => f.tab, fun h => h⟩, fun a o h => f.keep a o (sub a o h) (fun ps z => nx.nt a ps (by rw [h, z])) (by simp)⟩
theorem NX.st {kap : Kp} {F H : Hp} (nx : NX kap F H) : St0 kap (nT H) H := ⟨nT_sub H, nT_nt H, nx.tab⟩
theorem FPost.new {K : PySem.W.Frag} {kap : Kp} {F H F' H' : Hp} {q : Option D} (f : FPost K kap F H F' H' none q) : New kap.tab F H F' H' := ⟨f.ex, fun a o h n => f.keep a o h n (by simp), f.fnew, f.dom, fun _ => f.tab, fun _ => f.nt⟩
def spD (K : PySem.W.Frag) (kap : Kp) (n : Nat) (mu : Option Nat) (m : List D → Fo) : Sp := fun vs H Q E => ∃ F ds P, ds.length = n ∧ St0 kap F H ∧ ArgR K kap F H mu vs ds P ∧
  (match m ds with
  | .ret d q => ∀ v F' H', FPost K kap F H F' H' P q → Rep K kap F' v d → Q v H'
  | .retF d q => ∀ p F' H', FPost K kap F H F' H' P q → F' p = none → Own K kap F' H' p d → H p = none → P ≠ some p → Q (.ref p) H'
  | .ex c fs q => ∀ F' H' d, FPost K kap F H F' H' P q → XR K kap F' d fs → E (.ref (kap c)) d H'
  | .bad => False)
def env0 : Option Nat → List D → DEnv
  | none, ds => ds.map .va
  | some 0, d :: r => .pn d :: r.map .va
  | some (k + 1), d :: r => .va d :: env0 (some k) r
  | some _, [] => []
theorem env0_get : ∀ (mu : Option Nat) (ds : List D) (i : Nat), (env0 mu ds)[i]? = (ds[i]?).map fun d => if mu = some i then .pn d else .va d
  | none, ds, i => by simp [env0]
  | some k, [], i => by cases k <;> simp [env0]
  | some 0, d :: r, 0 => by simp [env0]
  | some 0, d :: r, i + 1 => by simp [env0]
  | some (k + 1), d :: r, 0 => by simp [env0]
  | some (k + 1), d :: r, i + 1 => by
    have := env0_get (some k) r i
    simp only [env0, List.getElem?_cons_succ, this]
    congr 1
    funext d
    by_cases h : k = i <;> simp [h]
theorem env0_len (mu : Option Nat) (ds : List D) : (env0 mu ds).length = ds.length := by
  induction ds generalizing mu with
  | nil => cases mu with
    | none => rfl
    | some k => cases k <;> rfl
  | cons d r ih =>
    cases mu with
    | none => simp [env0]
    | some k =>
      cases k with
      | zero => simp [env0]
      | succ k => simp [env0, ih]
def lastOf (mu : Option Nat) (de : DEnv) : Option (Option D) := match mu with
  | none => some none
  | some k => match de[k]? with
    | some (.pn d) => some (some d)
    | _ => none
def finish (mu : Option Nat) : Ot → Fo
  | .nx de => (match lastOf mu de with | some q => .ret .non q | none => .bad)
  | .ret d de => (match lastOf mu de with | some q => .ret d q | none => .bad)
  | .retF d de => (match lastOf mu de with | some q => .retF d q | none => .bad)
  | .ex c fs de => (match lastOf mu de with | some q => .ex c fs q | none => .bad)
  | _ => .bad
def run (mu : Option Nat) (nl : Nat) (e : DEnv → Ot) (ds : List D) : Fo := finish mu (e (env0 mu ds ++ List.replicate nl .no))
section
variable {K : PySem.W.Frag} {kap : Kp} {xi : Xi} {F H : Hp} {mu : Option Nat} {vs : List V} {ds : List D} {P : Option Addr}
theorem start_get (N : List Str) (vs : List V) (i : Nat) {v : V} (h : vs[i]? = some v) : (L2.start N vs)[i]? = some (some v) := by
  have il : i < vs.length := (List.getElem?_eq_some_iff.mp h).1
  unfold L2.start
  rw [List.getElem?_append_left (by simpa using il), List.getElem?_map, h]
  rfl
def O0 (mu : Option Nat) (P : Option Addr) : Own? := fun i => if mu = some i then P else none
theorem rs_start (N : List Str) (nl : Nat) (hN : N.length = ds.length + nl) (sub : St0 kap F H) (A : ArgR K kap F H mu vs ds P) : RS K kap none F H (L2.start N vs) (env0 mu ds ++ List.replicate nl .no) (O0 mu P) := by
  have get : ∀ (i : Nat) (s : Sl), (env0 mu ds ++ List.replicate nl .no)[i]? = some s → (∃ d, ds[i]? = some d ∧ s = if mu = some i then .pn d else .va d) ∨ s = .no := fun i s h => by
    by_cases il : i < ds.length
    · rw [List.getElem?_append_left (by rw [env0_len]; exact il), env0_get] at h
      obtain ⟨d, h1, h2⟩ := Option.map_eq_some_iff.mp h
      exact .inl ⟨d, h1, h2.symm⟩
    · rw [List.getElem?_append_right (by rw [env0_len]; exact Nat.le_of_not_lt il)] at h
      exact .inr (List.eq_of_mem_replicate (List.mem_of_getElem? h))
  refine ⟨?_, fun i d h => ?_, fun i s d h1 h2 => ?_, fun i c fs h => ?_, fun i p h => ?_, fun i j p h1 h2 => ?_, sub.sub, sub.nt, sub.tab, fun i d h => ?_, fun i s d h1 h2 => ?_⟩
  · unfold L2.start
    simp [env0_len, A.len]
    have := A.len
    omega
  · rcases get i _ h with ⟨d', h1, h2⟩ | h2
    · split at h2
      · cases h2
      · rename_i hm
        cases h2
        obtain ⟨v, g1, g2⟩ := A.va i d h1 hm
        exact ⟨v, start_get N vs i g1, g2⟩
    · cases h2
  · rcases get i _ h1 with ⟨d', g1, g2⟩ | g2
    · split at g2
      · rename_i hm
        subst g2
        cases h2
        obtain ⟨p, k1, k2, k3, k4⟩ := A.ow i d hm g1
        refine ⟨p, ?_, start_get N vs i k2, k3, k4⟩
        unfold O0
        rw [if_pos hm, k1]
      · subst g2; cases h2
    · subst g2; cases h2
  · rcases get i _ h with ⟨d', g1, g2⟩ | g2
    · split at g2 <;> cases g2
    · cases g2
  · unfold O0 at h
    split at h
    · rename_i hm
      obtain ⟨k, d, e1, e2⟩ := A.no (by rw [h]; simp)
      rw [hm] at e1
      cases e1
      refine ⟨.pn d, d, ?_, rfl⟩
      rw [List.getElem?_append_left (by rw [env0_len]; exact (List.getElem?_eq_some_iff.mp e2).1), env0_get, e2, Option.map_some, if_pos hm]
    · cases h
  · unfold O0 at h1 h2
    split at h1
    · rename_i m1
      split at h2
      · rename_i m2
        rw [m1] at m2
        cases m2
        rfl
      · cases h2
    · cases h1
  · rcases get i _ h with ⟨d', g1, g2⟩ | g2
    · split at g2 <;> cases g2
    · cases g2
  · rcases get i _ h1 with ⟨d', g1, g2⟩ | g2
    · split at g2 <;> (subst g2; cases h2)
    · subst g2; cases h2
theorem post_of {F' H' : Hp} {sg' : St} {de' : DEnv} {O' : Own?} {xi : Xi} {nl : Nat} {q : Option D} (A : ArgR K kap F H mu vs ds P) (R : RS K kap xi F' H' sg' de' O') (g : Go F H (env0 mu ds ++ List.replicate nl .no) (O0 mu P) F' H' de' O')
    (hq : lastOf mu de' = some q) : FPost K kap F H F' H' P q ∧ ∀ p, P = some p → ∃ i, O' i = some p := by
  have key : ∀ p, P = some p → ∃ k d, mu = some k ∧ q = some d ∧ de'[k]? = some (Sl.pn d) ∧ O' k = some p := fun p hp => by
    obtain ⟨k, d, e1, e2⟩ := A.no (by rw [hp]; simp)
    subst e1
    unfold lastOf at hq
    dsimp only at hq
    split at hq
    · rename_i d' e3
      cases hq
      obtain ⟨e4, _⟩ := g.pin k d' e3
      refine ⟨k, d', rfl, rfl, e3, ?_⟩
      rw [e4]
      unfold O0
      rw [if_pos rfl, hp]
    · cases hq
  refine ⟨⟨g.ex, R.sub, fun a o h t n => g.keep a o h t fun i e => ?_, g.dom, fun a h => ?_, fun p hp => ?_, R.nt, R.tab⟩, fun p hp => ?_⟩
  · unfold O0 at e
    split at e
    · exact n e
    · cases e
  · rcases g.fnew a h with z | z | ⟨i, z⟩
    · exact .inl z
    · exact .inr z
    · exfalso
      unfold O0 at z
      split at z
      · obtain ⟨k, d, _, _, e3, e4⟩ := key a z
        obtain ⟨p', k1, _, k3, _⟩ := R.ow k _ d e3 rfl
        rw [e4] at k1
        cases k1
        exact h k3
      · cases z
  · obtain ⟨k, d, _, e2, e3, e4⟩ := key p hp
    obtain ⟨p', k1, _, k3, k4⟩ := R.ow k _ d e3 rfl
    rw [e4] at k1
    cases k1
    exact ⟨d, e2, k3, k4⟩
  · obtain ⟨k, d, _, _, _, e4⟩ := key p hp
    exact ⟨k, e4⟩
theorem run_snd {n nl : Nat} {N : List Str} {t : WX → TS} {e : DEnv → Ot} (hN : N.length = n + nl) (s : SndS K kap none t e) {H : Hp} {vs : List V} {Q : VK} {E : XK} (h : spD K kap n mu (run mu nl e) vs H Q E) :
    t (fun cls d _ H => E cls d H) { nx := fun _ H' => Q .non H', rt := Q } (L2.start N vs) H := by
  obtain ⟨F, ds, P, hn, sub, A, h⟩ := h
  refine s _ F H _ _ (O0 mu P) _ (rs_start N nl (by rw [hn]; exact hN) sub A) ?_
  unfold run at h
  cases eo : e (env0 mu ds ++ List.replicate nl .no) with
  | nx de' =>
    rw [eo] at h
    unfold finish at h
    dsimp only at h
    cases eq : lastOf mu de' with
    | none => rw [eq] at h; exact h.elim
    | some q =>
      rw [eq] at h
      intro F' H' sg' O' R g
      exact h _ F' H' (post_of A R g eq).1 .non
  | ret d de' =>
    rw [eo] at h
    unfold finish at h
    dsimp only at h
    cases eq : lastOf mu de' with
    | none => rw [eq] at h; exact h.elim
    | some q =>
      rw [eq] at h
      intro v F' H' sg' O' R g r
      exact h _ F' H' (post_of A R g eq).1 r
  | retF d de' =>
    rw [eo] at h
    unfold finish at h
    dsimp only at h
    cases eq : lastOf mu de' with
    | none => rw [eq] at h; exact h.elim
    | some q =>
      rw [eq] at h
      intro v F' H' sg' O' R g ⟨p, ev, hf, how, hO⟩ org
      subst ev
      obtain ⟨p1, p2⟩ := post_of A R g eq
      have np : P ≠ some p := fun z => by
        obtain ⟨i, e⟩ := p2 p z
        exact hO i e
      refine h p F' H' p1 hf how ?_ np
      rcases org p rfl with z | ⟨i, z⟩
      · exact z
      · exfalso
        unfold O0 at z
        split at z
        · exact np z
        · cases z
  | ex c fs de' =>
    rw [eo] at h
    unfold finish at h
    dsimp only at h
    cases eq : lastOf mu de' with
    | none => rw [eq] at h; exact h.elim
    | some q =>
      rw [eq] at h
      intro F' H' sg' O' d R g e1
      exact h F' H' d (post_of A R g eq).1 e1
  | brk de' => rw [eo] at h; exact h.elim
  | ct de' => rw [eo] at h; exact h.elim
  | bad => rw [eo] at h; exact h.elim
end
theorem Fun.dl {P : Program} {w : World} {K : PySem.W.Frag} {mg : Str → Option Value} {base : Heap} {kap : Kp} {x qual : Str} {st : Stmt} {f : Addr} {fd : FuncData} {N ps : List Str} {k : Nat} {n nl : Nat} {mu : Option Nat} {e : DEnv → Ot}
    (F : Fun K x qual st f fd) (S : FnScope N ps (defScope st)) (hn : ps.length = n) (hN : N.length = n + nl)
    (hbody : ∀ (cdv : Value) (A : Around) (outer : List Env) (s : Shared) (H : Hp) (E : XK), RoomG k (A.deeper (envC qual (defScope st) s.heap.objs.size f cdv)) →
      Takes (cxOf (L2.CX P w) P w K mg base N qual (defScope st) f cdv A outer s H E) (fun cls d _ H => E cls d H) →
      PassesOwn (model P w) (cxOf (L2.CX P w) P w K mg base N qual (defScope st) f cdv A outer s H E).A (cxOf (L2.CX P w) P w K mg base N qual (defScope st) f cdv A outer s H E).env (cxOf (L2.CX P w) P w K mg base N qual (defScope st) f cdv A outer s H E).xe →
      ∃ t, JSs kap none (cxOf (L2.CX P w) P w K mg base N qual (defScope st) f cdv A outer s H E) (fun cls d _ H => E cls d H) (defBody st) t e) :
    FnG P w K mg base (L2.CX P w) (k + 1) f fd ps (spD K kap n mu (run mu nl e)) := by
  refine fun_okG F S (fun vs H Q E h => ?_) fun cdv A outer s H vs Q E hr h => ?_
  · obtain ⟨F, ds, P, hd, _, A, _⟩ := h
    rw [A.len, hd, hn]
  · obtain ⟨t, J⟩ := hbody cdv A outer s H E hr (takes_of rfl rfl rfl rfl) (passes_of rfl)
    exact ⟨_, J.p, run_snd hN J.s h⟩
inductive CA where
  | v (d : D) | s (i : Nat)
inductive CAs (K : PySem.W.Frag) (kap : Kp) (F : Hp) (sg : St) : List V → List CA → Prop
  | nil : CAs K kap F sg [] []
  | v {v : V} {d : D} {vs : List V} {cs : List CA} : Rep K kap F v d → CAs K kap F sg vs cs → CAs K kap F sg (v :: vs) (.v d :: cs)
  | s {v : V} {i : Nat} {vs : List V} {cs : List CA} : sg[i]? = some (some v) → CAs K kap F sg vs cs → CAs K kap F sg (v :: vs) (.s i :: cs)
theorem CAs.mono {K : PySem.W.Frag} {kap : Kp} {F F' : Hp} {sg : St} (e : Same F F') : ∀ {vs : List V} {cs : List CA}, CAs K kap F sg vs cs → CAs K kap F' sg vs cs
  | _, _, .nil => .nil
  | _, _, .v h r => .v (h.mono e) (r.mono e)
  | _, _, .s h r => .s h (r.mono e)
def RlC (K : PySem.W.Frag) (kap : Kp) : Rel (List V) (List CA) := { rel := fun sg F _ _ vs cs => CAs K kap F sg vs cs }
structure JC (kap : Kp) (xi : Xi) (X : Cx) (W : WX) (es : List Expr) (t : WX → TA) (ev : DEnv → Rs (List CA)) : Prop where
  p : PA X es (t W)
  s : Snd X.K kap xi (RlC X.K kap) t ev
def cNil (de : DEnv) : Rs (List CA) := .ok [] de
def cVal (ev : DEnv → Rs D) (er : DEnv → Rs (List CA)) (de : DEnv) : Rs (List CA) := (ev de).bind fun d de1 => (er de1).bind fun cs de2 => .ok (.v d :: cs) de2
def cSlot (i : Nat) (er : DEnv → Rs (List CA)) (de : DEnv) : Rs (List CA) := match slotAt i de with
  | some _ => (er de).bind fun cs de2 => .ok (.s i :: cs) de2
  | none => .bad
def caD (c : CA) (de : DEnv) : Option D := match c with
  | .v d => some d
  | .s i => match de[i]? with
    | some (.va d) => some d
    | _ => none
def argD : Option Nat → List CA → DEnv → Option (List D)
  | _, [], _ => some []
  | none, c :: r, de => (caD c de).bind fun d => (argD none r de).map (d :: ·)
  | some 0, .v _ :: _, _ => none
  | some 0, .s i :: r, de => (slotOw i de).bind fun q => (argD none r de).map (q.2 :: ·)
  | some (k + 1), c :: r, de => (caD c de).bind fun d => (argD (some k) r de).map (d :: ·)
def argS : Option Nat → List CA → Option Nat
  | some 0, .s i :: _ => some i
  | some (k + 1), _ :: r => argS (some k) r
  | _, _ => none
def putBack (i : Option Nat) (q : Option D) (de : DEnv) : DEnv := match i, q with
  | some i, some d => (match de[i]? with
    | some s => de.set i (s.same d)
    | none => de)
  | _, _ => de
def callE (i : Option Nat) (de : DEnv) : Fo → Rs D
  | .ret d q => .ok d (putBack i q de)
  | .retF d q => .ok d (putBack i q de)
  | .ex c fs q => .ex c fs (putBack i q de)
  | .bad => .bad
def callF (i : Option Nat) (de : DEnv) : Fo → Rs D
  | .retF d q => .ok d (putBack i q de)
  | .ex c fs q => .ex c fs (putBack i q de)
  | _ => .bad
section
variable {K : PySem.W.Frag} {kap : Kp} {xi : Xi} {F H : Hp} {sg : St} {de : DEnv} {O : Own?} {W : WX}
theorem args_of (R : RS K kap xi F H sg de O) : ∀ {mu : Option Nat} {vs : List V} {cs : List CA} {ds : List D}, CAs K kap F sg vs cs → argD mu cs de = some ds →
    ∃ P, ArgR K kap F H mu vs ds P ∧ (∀ p, P = some p → ∃ i s d, argS mu cs = some i ∧ de[i]? = some s ∧ s.owd = some d ∧ O i = some p) ∧ (P = none → argS mu cs = none) := by
  have one : ∀ {v : V} {c : CA} {cs : List CA} {vs : List V} {d : D}, CAs K kap F sg (v :: vs) (c :: cs) → caD c de = some d → Rep K kap F v d := fun {v c cs vs d} h e => by
    cases h with
    | v h r => cases e; exact h
    | s h r =>
      unfold caD at e
      dsimp only at e
      split at e
      · rename_i d' e2
        cases e
        obtain ⟨v', g1, g2⟩ := R.va _ _ e2
        rw [h] at g1
        cases g1
        exact g2
      · cases e
  have tl : ∀ {v : V} {c : CA} {cs : List CA} {vs : List V}, CAs K kap F sg (v :: vs) (c :: cs) → CAs K kap F sg vs cs := fun {v c cs vs} h => by
    cases h with
    | v h r => exact r
    | s h r => exact r
  intro mu vs cs
  induction cs generalizing mu vs with
  | nil =>
    intro ds h e
    cases h
    have : ds = [] := by cases mu <;> cases e <;> rfl
    subst this
    refine ⟨none, ⟨rfl, fun i d h => by simp at h, fun k d _ h => by simp at h, fun h => absurd rfl h⟩, fun p h => (by cases h), fun _ => ?_⟩
    cases mu with
    | none => rfl
    | some k => cases k <;> rfl
  | cons c cs ih =>
    intro ds h e
    cases vs with
    | nil => cases h
    | cons v vs =>
      cases mu with
      | none =>
        obtain ⟨d, e1, e2⟩ := bind_some e
        obtain ⟨ds', e3, e4⟩ := Option.map_eq_some_iff.mp e2
        subst e4
        obtain ⟨P, A, hP, hN⟩ := ih (tl h) e3
        have rd := one h e1
        cases P with
        | some p => obtain ⟨k, d, e, _⟩ := A.no (by simp); cases e
        | none =>
          refine ⟨none, ⟨congrArg Nat.succ A.len, fun i d' hi hm => ?_, fun k d' z _ => (by cases z), fun z => absurd rfl z⟩, fun p z => (by cases z), fun _ => rfl⟩
          cases i with
          | zero => simp at hi; subst hi; exact ⟨v, rfl, rd⟩
          | succ i =>
            obtain ⟨v', g1, g2⟩ := A.va i d' (by simpa using hi) (by simp)
            exact ⟨v', by simpa using g1, g2⟩
      | some k =>
        cases k with
        | zero =>
          cases c with
          | v d => cases e
          | s i =>
            obtain ⟨⟨s, d⟩, e1, e2⟩ := bind_some e
            obtain ⟨ds', e3, e4⟩ := Option.map_eq_some_iff.mp e2
            subst e4
            obtain ⟨g1, g2, p, g3, g4, g5, g6⟩ := R.owl e1
            obtain ⟨P, A, hP, hN⟩ := ih (tl h) e3
            have hv : v = .ref p := by
              cases h with
              | s h r => rw [h] at g4; cases g4; rfl
            subst hv
            refine ⟨some p, ⟨congrArg Nat.succ A.len, fun j d' hi hm => ?_, fun k d' z hd => ?_, fun _ => ⟨0, d, rfl, rfl⟩⟩, fun q z => ?_, fun z => by cases z⟩
            · cases j with
              | zero => exact absurd rfl hm
              | succ j =>
                obtain ⟨v', k1, k2⟩ := A.va j d' (by simpa using hi) (by simp)
                exact ⟨v', by simpa using k1, k2⟩
            · cases z
              simp at hd
              subst hd
              exact ⟨p, rfl, rfl, g5, g6⟩
            · cases z
              exact ⟨i, s, d, rfl, g1, g2, g3⟩
        | succ k =>
          obtain ⟨d, e1, e2⟩ := bind_some e
          obtain ⟨ds', e3, e4⟩ := Option.map_eq_some_iff.mp e2
          subst e4
          obtain ⟨P, A, hP, hN⟩ := ih (mu := some k) (tl h) e3
          have rd := one h e1
          refine ⟨P, ⟨congrArg Nat.succ A.len, fun i d' hi hm => ?_, fun k' d' z hd => ?_, fun z => ?_⟩, hP, hN⟩
          · cases i with
            | zero => simp at hi; subst hi; exact ⟨v, rfl, rd⟩
            | succ i =>
              obtain ⟨v', g1, g2⟩ := A.va i d' (by simpa using hi) (fun z => hm (by cases z; rfl))
              exact ⟨v', by simpa using g1, g2⟩
          · cases z
            obtain ⟨p, g1, g2, g3, g4⟩ := A.ow k d' rfl (by simpa using hd)
            exact ⟨p, g1, by simpa using g2, g3, g4⟩
          · obtain ⟨k', d', e, e'⟩ := A.no z
            cases e
            exact ⟨k + 1, d', rfl, by simpa using e'⟩
theorem RS.after (R : RS K kap xi F H sg de O) {F' H' : Hp} {P : Option Addr} {q : Option D} {si : Option Nat} (f : FPost K kap F H F' H' P q)
    (hP : ∀ p, P = some p → ∃ i s d, si = some i ∧ de[i]? = some s ∧ s.owd = some d ∧ O i = some p) (hN : P = none → si = none) : RS K kap xi F' H' sg (putBack si q de) O ∧ Go F H de O F' H' (putBack si q de) O := by
  cases P with
  | none =>
    rw [hN rfl]
    have n := f.new
    exact ⟨R.new n f.sub, n.go⟩
  | some p =>
    obtain ⟨i, s, d, e1, e2, e3, e4⟩ := hP p rfl
    obtain ⟨d', e5, e6, e7⟩ := f.own p rfl
    subst e1 e5
    have il : i < de.length := (List.getElem?_eq_some_iff.mp e2).1
    have epb : putBack (some i) (some d') de = de.set i (s.same d') := by
      unfold putBack
      dsimp only
      rw [e2]
    rw [epb]
    have hsd : (s.same d').owd = some d' := by
      cases s with
      | ow d0 => rfl
      | pn d0 => rfl
      | _ => cases e3
    obtain ⟨p', g1, g2, g3, g4⟩ := R.ow i s d e2 e3
    rw [e4] at g1
    cases g1
    refine ⟨⟨by rw [List.length_set]; exact R.len, fun j e h => ?_, fun j t e h1 h2 => ?_, fun j c fs h => ?_, fun j q h => ?_, R.inj, f.sub, f.nt, f.tab, fun j e h => ?_, R.ghs f.ex (fun j t e a h1 h2 h3 => ?_) fun j t e h1 h2 => ?_⟩, ⟨f.ex, fun a u h t n => f.keep a u h t fun z => n i (by rw [e4]; exact z), fun j a h => .inl ⟨j, h⟩, f.dom, fun a h => (f.fnew a h).elim .inl fun z => .inr (.inl z), fun j e h => ?_⟩⟩
    · rcases set_get h with ⟨rfl, _, z⟩ | ⟨n, h⟩
      · exfalso; rw [← z] at hsd; cases hsd
      · obtain ⟨v, k1, k2⟩ := R.va j e h
        exact ⟨v, k1, k2.mono f.ex⟩
    · rcases set_get h1 with ⟨rfl, _, z⟩ | ⟨n, h1⟩
      · rw [z, hsd] at h2
        cases h2
        exact ⟨p, e4, g2, e6, e7⟩
      · obtain ⟨q, k1, k2, k3, k4⟩ := R.ow j t e h1 h2
        have nq : q ≠ p := fun z => by
          have : j = i := R.inj j i p (by rw [k1, z]) e4
          rcases n with n | n
          · exact n this
          · exact absurd il (Nat.not_lt.mpr n)
        obtain ⟨o, ho⟩ := k4.some
        have hk := f.keep q o ho (fun ps z => k4.notTbl ps (by rw [ho, z])) fun z => nq (by cases z; rfl)
        refine ⟨q, k1, k2, ?_, k4.mono f.ex (by rw [hk, ho])⟩
        cases e : F' q with
        | none => rfl
        | some u =>
          rcases f.fnew q (by rw [e]; simp) with z | z
          · exact absurd k3 z
          · rw [ho] at z; cases z
    · rcases set_get h with ⟨rfl, _, z⟩ | ⟨n, h⟩
      · exfalso; rw [← z] at hsd; cases hsd
      · obtain ⟨a, d, k1, k2, k3⟩ := R.ex j c fs h
        exact ⟨a, d, k1, k2, k3.mono f.ex⟩
    · obtain ⟨t, e, h1, h2⟩ := R.onl j q h
      by_cases z : j = i
      · subst z
        exact ⟨s.same d', d', List.getElem?_set_self il, Sl.hld_of (.inl hsd)⟩
      · exact ⟨t, e, by rw [List.getElem?_set_ne (Ne.symm z)]; exact h1, h2⟩
    · rcases set_get h with ⟨rfl, _, z⟩ | ⟨n, h⟩
      · exfalso; rw [← z] at hsd; cases hsd
      · obtain ⟨me, k1, k2, k3⟩ := R.cn j e h
        exact ⟨me, k1, k2, k3.mono f.ex⟩
    · have na : a ≠ p := fun z => by
        have := R.inj j i p (by rw [h3, z]) e4
        subst this
        rw [e2] at h1
        cases h1
        cases s with
        | ow d0 => cases h2
        | pn d0 => cases h2
        | _ => cases e3
      obtain ⟨d9, hw⟩ := R.heldOwn h3
      obtain ⟨o, ho⟩ := hw.some
      refine ⟨?_, by rw [f.keep a o ho (fun ps z => hw.notTbl ps (by rw [ho, z])) fun z => na (by cases z; rfl), ho]⟩
      cases e : F' a with
      | none => rfl
      | some u =>
        rcases f.fnew a (by rw [e]; simp) with z | z
        · exact absurd (R.held h3).1 z
        · rw [ho] at z; cases z
    · rcases set_get h1 with ⟨rfl, _, z⟩ | ⟨n, h1⟩
      · exfalso; rw [z] at h2; cases s with
        | ow d0 => cases h2
        | pn d0 => cases h2
        | _ => cases e3
      · exact ⟨h1, rfl⟩
    · rcases set_get h with ⟨rfl, _, z⟩ | ⟨n, h⟩
      · refine ⟨rfl, ?_⟩
        cases s with
        | pn d0 => exact ⟨d0, e2⟩
        | _ => cases z
      · exact ⟨rfl, e, h⟩
end
end DL
namespace DL
open PySem L2
section
variable {kap : Kp} {xi : Xi} {X : Cx} {W : WX} {e : Expr} {es : List Expr} {t : WX → TE} {ta : WX → TA} {ev : DEnv → Rs D} {ea : DEnv → Rs (List CA)} {pos p apos : Pos}
theorem jcNil : JC kap xi X W [] (fun _ => tNil) cNil := ⟨pa_nil, fun W F H sg de O Q R hp => hp.done R New.refl R.sub .nil⟩
theorem jcVal (h : JE kap xi X W e t ev) (hr : JC kap xi X W es ta ea) (hs : starEach (e :: es) X.env = (false, eval e X.env) :: starEach es X.env := by rfl) : JC kap xi X W (e :: es) (fun W => tCons (t W) (ta W)) (cVal ev ea) := ⟨pa_cons h.p hr.p hs, by
  intro W F H sg de O Q R hp
  refine h.s.bind R hp fun v f F1 H1 de1 O1 R1 g1 r _ hp => ?_
  refine hr.s.bind R1 hp fun vs fs F2 H2 de2 O2 R2 g2 rs _ hp => ?_
  exact hp.done R2 New.refl R2.sub (.v (Rep.mono g2.ex r) rs)⟩
theorem jcSlot (i : Nat) {x : Str} {xp : Pos} (hr : JC kap xi X W es ta ea) (hN : X.N[i]? = some x := by rfl) (hv : Vis X.env.scope x := by first | exact Or.inl rfl | exact Or.inr (Or.inl rfl) | exact Or.inr (Or.inr rfl)) (hd : (x == ("__debug__" : Str)) = false := by decide)
    (hcd : (x == ("__classdict__" : Str)) = false := by decide) (hs : starEach (.Name x xp :: es) X.env = (false, eval (.Name x xp) X.env) :: starEach es X.env := by rfl) : JC kap xi X W (.Name x xp :: es) (fun W => tCons (tVar i) (ta W)) (cSlot i ea) := ⟨pa_cons (pe_var hN hv hd hcd) hr.p hs, by
  intro W F H sg de O Q R hp
  unfold cSlot at hp
  split at hp
  · rename_i d e0
    obtain ⟨v, hv, _⟩ := R.rb e0
    refine ⟨v, hv, ?_⟩
    refine hr.s.bind R hp fun vs fs F2 H2 de2 O2 R2 g2 rs _ hp => ?_
    exact hp.done R2 New.refl R2.sub (.s hv rs)
  · exact hp.elim⟩
end
section
variable {K : PySem.W.Frag} {kap : Kp} {xi : Xi} {F H : Hp} {sg : St} {de : DEnv} {O : Own?} {W : WX}
theorem RS.keepO (R : RS K kap xi F H sg de O) {F' H' : Hp} (ex : Same F F') (st : St0 kap F' H') (hO : ∀ i p, O i = some p → H' p = H p ∧ F' p = none) : RS K kap xi F' H' sg de O where
  len := R.len
  va := fun i d e => by
    obtain ⟨v, h1, h2⟩ := R.va i d e
    exact ⟨v, h1, h2.mono ex⟩
  ow := fun i s d e h => by
    obtain ⟨p, h1, h2, h3, h4⟩ := R.ow i s d e h
    obtain ⟨k1, k2⟩ := hO i p h1
    exact ⟨p, h1, h2, k2, h4.mono ex k1⟩
  ex := fun i c fs e => by
    obtain ⟨a, d, h1, h2, h3⟩ := R.ex i c fs e
    exact ⟨a, d, h1, h2, h3.mono ex⟩
  onl := R.onl
  inj := R.inj
  sub := st.sub
  nt := st.nt
  tab := st.tab
  cn := fun i d e => by
    obtain ⟨me, h1, h2, h3⟩ := R.cn i d e
    exact ⟨me, h1, h2, h3.mono ex⟩
  gh := R.ghs ex (fun i s d p _ _ h => ⟨(hO i p h).2, (hO i p h).1⟩) fun i s d h1 h2 => ⟨h1, rfl⟩
theorem ret_E {F' H' : Hp} {P : Option Addr} {d : D} {q : Option D} {cs : List CA} {mu : Option Nat} {Q : VK} (R : RS K kap xi F H sg de O)
    (hP : ∀ p, P = some p → ∃ i s d, argS mu cs = some i ∧ de[i]? = some s ∧ s.owd = some d ∧ O i = some p) (hN : P = none → argS mu cs = none)
    {v : V} (hp : PE1 K kap (RlE K kap) xi F H sg de O W Q (.ok d (putBack (argS mu cs) q de))) (f : FPost K kap F H F' H' P q) (r : Rep K kap F' v d) : Q v H' := by
  obtain ⟨R', g⟩ := R.after f hP hN
  exact hp v F' H' O R' g r fun _ z => z.elim
theorem ret_F {F' H' : Hp} {P : Option Addr} {d : D} {q : Option D} {cs : List CA} {mu : Option Nat} {Q : VK} (R : RS K kap xi F H sg de O)
    (hP : ∀ p, P = some p → ∃ i s d, argS mu cs = some i ∧ de[i]? = some s ∧ s.owd = some d ∧ O i = some p) (hN : P = none → argS mu cs = none)
    {p : Addr} (hp : PE1 K kap (RlF K kap) xi F H sg de O W Q (.ok d (putBack (argS mu cs) q de))) (f : FPost K kap F H F' H' P q) (h1 : F' p = none) (h2 : Own K kap F' H' p d) (h3 : H p = none) : Q (.ref p) H' := by
  obtain ⟨R', g⟩ := R.after f hP hN
  exact hp (.ref p) F' H' O R' g ⟨p, rfl, h1, h2, R.nofresh h3⟩ fun _ z => by cases z; exact .inl h3
theorem ret_X {α β : Type} {Rl : Rel β α} {F' H' : Hp} {P : Option Addr} {c : Nat} {fs : List (Str × D)} {q : Option D} {cs : List CA} {mu : Option Nat} {Q : β → Hp → Prop} {dx : Option Addr} (R : RS K kap xi F H sg de O)
    (hP : ∀ p, P = some p → ∃ i s d, argS mu cs = some i ∧ de[i]? = some s ∧ s.owd = some d ∧ O i = some p) (hN : P = none → argS mu cs = none)
    (hp : PE1 K kap Rl xi F H sg de O W Q (.ex c fs (putBack (argS mu cs) q de))) (f : FPost K kap F H F' H' P q) (h1 : XR K kap F' dx fs) : W (.ref (kap c)) dx sg H' := by
  obtain ⟨R', g⟩ := R.after f hP hN
  exact hp F' H' sg O dx R' g h1
theorem fz_of {d : D} {de' : DEnv} {Q : VK} (hp : PE1 K kap (RlE K kap) xi F H sg de O W Q (.ok d de')) : PE1 K kap (RlF K kap) xi F H sg de O W Q (.ok d de') := by
  intro v F' H' O' R' g ⟨p, ev', hf, how, hO⟩ org
  subst ev'
  obtain ⟨o, ho, hr⟩ := how.freeze hf
  refine hp (.ref p) (upd F' p o) H' O' (R'.add hf ho hO fun ps z => how.notTbl ps (by rw [ho, z])) ⟨g.ex.trans (same_upd hf), g.keep, g.new, g.dom, fun a z => ?_, g.pin⟩ hr fun _ z => z.elim
  by_cases q : a = p
  · subst q; exact .inr (org a rfl)
  · rw [upd_ne q] at z; exact g.fnew a z
theorem args_more {mu : Option Nat} {vs dvs : List V} {ds dcs : List D} {P : Option Addr} (A : ArgR K kap F H mu vs ds P) (hd : Reps K kap F dvs dcs) (hm : P = none → mu = none) : ArgR K kap F H mu (vs ++ dvs) (ds ++ dcs) P where
  len := by rw [List.length_append, List.length_append, A.len, hd.length]
  va := fun i d h hm => by
    by_cases il : i < ds.length
    · rw [List.getElem?_append_left il] at h
      obtain ⟨v, h1, h2⟩ := A.va i d h hm
      exact ⟨v, by rw [List.getElem?_append_left (by rw [A.len]; exact il)]; exact h1, h2⟩
    · rw [List.getElem?_append_right (Nat.le_of_not_lt il)] at h
      obtain ⟨v, h1, h2⟩ := hd.get h
      exact ⟨v, by rw [List.getElem?_append_right (by rw [A.len]; exact Nat.le_of_not_lt il), A.len]; exact h1, h2⟩
  ow := fun k d e h => by
    have hp : P ≠ none := fun z => by rw [hm z] at e; cases e
    obtain ⟨k', d', e1, e2⟩ := A.no hp
    rw [e] at e1
    cases e1
    have il := (List.getElem?_eq_some_iff.mp e2).1
    rw [List.getElem?_append_left il] at h
    obtain ⟨p, h1, h2, h3⟩ := A.ow k d e h
    exact ⟨p, h1, by rw [List.getElem?_append_left (by rw [A.len]; exact il)]; exact h2, h3⟩
  no := fun h => by
    obtain ⟨k, d, e1, e2⟩ := A.no h
    exact ⟨k, d, e1, by rw [List.getElem?_append_left (List.getElem?_eq_some_iff.mp e2).1]; exact e2⟩
end
def okS (mu si : Option Nat) : Bool := si.isSome == mu.isSome
def callC (n : Nat) (mu : Option Nat) (m : List D → Fo) (dcs : List D) (cs : List CA) (de : DEnv) : Rs D := match argD mu cs de with
  | some ds => if ds.length + dcs.length = n ∧ okS mu (argS mu cs) = true then callE (argS mu cs) de (m (ds ++ dcs)) else .bad
  | none => .bad
def callCF (n : Nat) (mu : Option Nat) (m : List D → Fo) (dcs : List D) (cs : List CA) (de : DEnv) : Rs D := match argD mu cs de with
  | some ds => if ds.length + dcs.length = n ∧ okS mu (argS mu cs) = true then callF (argS mu cs) de (m (ds ++ dcs)) else .bad
  | none => .bad
def wCall (n : Nat) (mu : Option Nat) (m : List D → Fo) (dcs : List D) (ea : DEnv → Rs (List CA)) (de : DEnv) : Rs D := (ea de).bind fun cs de1 => callC n mu m dcs cs de1
def wCallF (n : Nat) (mu : Option Nat) (m : List D → Fo) (dcs : List D) (ea : DEnv → Rs (List CA)) (de : DEnv) : Rs D := (ea de).bind fun cs de1 => callCF n mu m dcs cs de1
section
variable {K : PySem.W.Frag} {kap : Kp} {xi : Xi} {F H : Hp} {sg : St} {de : DEnv} {O : Own?} {W : WX}
theorem call_C {n : Nat} {mu : Option Nat} {m : List D → Fo} {dcs : List D} {cs : List CA} {vs dvs : List V} {Q : VK} (hd : ∀ F, Reps K kap F dvs dcs) (R : RS K kap xi F H sg de O) (A : CAs K kap F sg vs cs)
    (hp : PE1 K kap (RlE K kap) xi F H sg de O W Q (callC n mu m dcs cs de)) : spD K kap n mu m (vs ++ dvs) H Q (WE W sg) := by
  unfold callC at hp
  split at hp
  · rename_i ds e
    split at hp
    · rename_i hc
      obtain ⟨hn, hs⟩ := hc
      obtain ⟨P, AR, hP, hN⟩ := args_of R A e
      have hm : P = none → mu = none := fun z => by
        have h1 := hN z
        rw [h1] at hs
        cases mu with
        | none => rfl
        | some k => cases hs
      refine ⟨F, ds ++ dcs, P, by rw [List.length_append]; exact hn, R.st0, args_more AR (hd F) hm, ?_⟩
      cases eo : m (ds ++ dcs) with
      | ret d q => rw [eo] at hp; exact fun v F' H' f r => ret_E R hP hN hp f r
      | retF d q => rw [eo] at hp; exact fun p F' H' f h1 h2 h3 _ => ret_F R hP hN (fz_of hp) f h1 h2 h3
      | ex c fs q => rw [eo] at hp; exact fun F' H' d f h1 => ret_X R hP hN hp f h1
      | bad => rw [eo] at hp; exact hp.elim
    · exact hp.elim
  · exact hp.elim
theorem call_CF {n : Nat} {mu : Option Nat} {m : List D → Fo} {dcs : List D} {cs : List CA} {vs dvs : List V} {Q : VK} (hd : ∀ F, Reps K kap F dvs dcs) (R : RS K kap xi F H sg de O) (A : CAs K kap F sg vs cs)
    (hp : PE1 K kap (RlF K kap) xi F H sg de O W Q (callCF n mu m dcs cs de)) : spD K kap n mu m (vs ++ dvs) H Q (WE W sg) := by
  unfold callCF at hp
  split at hp
  · rename_i ds e
    split at hp
    · rename_i hc
      obtain ⟨hn, hs⟩ := hc
      obtain ⟨P, AR, hP, hN⟩ := args_of R A e
      have hm : P = none → mu = none := fun z => by
        have h1 := hN z
        rw [h1] at hs
        cases mu with
        | none => rfl
        | some k => cases hs
      refine ⟨F, ds ++ dcs, P, by rw [List.length_append]; exact hn, R.st0, args_more AR (hd F) hm, ?_⟩
      cases eo : m (ds ++ dcs) with
      | ret d q => rw [eo] at hp; exact hp.elim
      | retF d q => rw [eo] at hp; exact fun p F' H' f h1 h2 h3 _ => ret_F R hP hN hp f h1 h2 h3
      | ex c fs q => rw [eo] at hp; exact fun F' H' d f h1 => ret_X R hP hN hp f h1
      | bad => rw [eo] at hp; exact hp.elim
    · exact hp.elim
  · exact hp.elim
end
structure DG (P : Program) (w : World) (K : PySem.W.Frag) (mg : Str → Option Value) (base : Heap) (kap : Kp) (k : Nat) (n : Nat) (mu : Option Nat) (m : List D → Fo) (dcs : List D) where
  f : Addr
  fd : FuncData
  ps : List Str
  ds : List Value
  dvs : List V
  ok : FnG P w K mg base (L2.CX P w) k f fd ps (spD K kap n mu m)
  kp : PySem.W.keepIn K (.ref f) = true
  bi : Binds K fd ps ds
  vs : Vals dvs ds
  rs : ∀ F, Reps K kap F dvs dcs
section
variable {kap : Kp} {xi : Xi} {X : Cx} {W : WX} {e o : Expr} {es : List Expr} {t : WX → TE} {ta : WX → TA} {ev : DEnv → Rs D} {ea : DEnv → Rs (List CA)} {pos p apos : Pos} {k n : Nat} {x : Str} {mu : Option Nat} {md : List D → Fo} {dcs : List D}
theorem snd_call {K : PySem.W.Frag} {dvs : List V} (hd : ∀ F, Reps K kap F dvs dcs) (ha : Snd K kap xi (RlC K kap) ta ea) : Snd K kap xi (RlE K kap) (fun W => tCallSD (spD K kap n mu md) dvs (WE W) (ta W)) (wCall n mu md dcs ea) := by
  intro W F H sg de O Q R hp
  refine ha.bind R hp fun vs cs F1 H1 de1 O1 R1 g1 A _ hp => ?_
  exact call_C hd R1 A hp
theorem snd_callF {K : PySem.W.Frag} {dvs : List V} (hd : ∀ F, Reps K kap F dvs dcs) (ha : Snd K kap xi (RlC K kap) ta ea) : Snd K kap xi (RlF K kap) (fun W => tCallSD (spD K kap n mu md) dvs (WE W) (ta W)) (wCallF n mu md dcs ea) := by
  intro W F H sg de O Q R hp
  refine ha.bind R hp fun vs cs F1 H1 de1 O1 R1 g1 A _ hp => ?_
  exact call_CF hd R1 A hp
theorem jCall (g : DG X.prog X.w X.K X.mg X.base kap k n mu md dcs) (hm : X.mg x = some (.ref g.f)) (hr : RoomG k X.A) (tk : Takes X W) (ha : JC kap xi X W (e :: es) ta ea) (hg : Gl X x := by rfl) (hdb : (x == ("__debug__" : Str)) = false := by decide)
    (he : starEach (e :: es) X.env = (false, eval e X.env) :: starEach es X.env := by rfl) (hpl : (backTo pos (starEach es X.env)).any (·.1) = false := by rfl) :
    JE kap xi X W (.Call (.Name x p) (e :: es) [] pos) (fun W => tCallSD (spD X.K kap n mu md) g.dvs (WE W) (ta W)) (wCall n mu md dcs ea) :=
  ⟨pe_callG g.ok hr hg hm g.kp g.bi g.vs (fun s => passAt tk s) ha.p hdb he hpl, snd_call g.rs ha.s⟩
theorem jCallF (g : DG X.prog X.w X.K X.mg X.base kap k n mu md dcs) (hm : X.mg x = some (.ref g.f)) (hr : RoomG k X.A) (tk : Takes X W) (ha : JC kap xi X W (e :: es) ta ea) (hg : Gl X x := by rfl) (hdb : (x == ("__debug__" : Str)) = false := by decide)
    (he : starEach (e :: es) X.env = (false, eval e X.env) :: starEach es X.env := by rfl) (hpl : (backTo pos (starEach es X.env)).any (·.1) = false := by rfl) :
    JF kap xi X W (.Call (.Name x p) (e :: es) [] pos) (fun W => tCallSD (spD X.K kap n mu md) g.dvs (WE W) (ta W)) (wCallF n mu md dcs ea) :=
  ⟨pe_callG g.ok hr hg hm g.kp g.bi g.vs (fun s => passAt tk s) ha.p hdb he hpl, snd_callF g.rs ha.s⟩
def makeC (c n : Nat) (m : List D → Fo) (ds : List D) (de : DEnv) : Rs D := if ds.length + 1 = n then (match m (.obj c [] :: ds) with
  | .ret .non (some d) => .ok d de
  | .ex c' fs (some _) => .ex c' fs de
  | _ => .bad) else .bad
def wMake (c n : Nat) (m : List D → Fo) (dcs : List D) (ea : DEnv → Rs (List D)) (de : DEnv) : Rs D := (ea de).bind fun ds de1 => makeC c n m (ds ++ dcs) de1
def tMakeSD (C : Addr) (sp : Sp) (dvs : List V) (E : St → XK) (t : TA) : TE := fun sg H Q => t sg H fun vs H1 => ∀ x dx, H1 x = none → H1 dx = none → dx ≠ x →
  sp (.ref x :: (vs ++ dvs)) (upd (upd H1 dx (.own x)) x (.ins C dx [])) (fun v H2 => v = .non ∧ Q (.ref x) H2) (E sg)
theorem run_makeSD {C f : Addr} {fd : FuncData} {ps : List Str} {ds : List Value} {dvs : List V} {sp : Sp} {CX : CXT} {E : St → XK} {pins : List (Addr × Obj)} {sg : St} {H : Hp} {s : Shared} {Q : VK} {us : List Value} {vs : List V} (M : Mk X.K C f) (F : FnG X.prog X.w X.K X.mg X.base CX k f fd ps sp) (hr : RoomG (k + 1) X.A) (hb : Binds X.K fd ps ds) (hd : Vals dvs ds)
    (hx : PassesAt CX X sg (E sg)) (I : Inv X pins sg H s) (r : Vals vs us)
    (h : ∀ x dx, H x = none → H dx = none → dx ≠ x → sp (.ref x :: (vs ++ dvs)) (upd (upd H dx (.own x)) x (.ins C dx [])) (fun v H2 => v = .non ∧ Q (.ref x) H2) (E sg)) :
    wpAny (model X.prog X.w) X.A (call (.ref C) us) (EP X pins sg Q) X.xe s := by
  have hq := h (s.heap.objs.size + 1) s.heap.objs.size (I.hok.fresh (Nat.le_succ _)) (I.hok.fresh (Nat.le_refl _)) (Nat.ne_of_lt (Nat.lt_succ_self _))
  have I2 := Inv.made (C := C) I
  have r2 : Vals (V.ref (s.heap.objs.size + 1) :: (vs ++ dvs)) (Value.ref (s.heap.objs.size + 1) :: (us ++ ds)) := .cons rfl (r.append hd)
  have hl : (Value.ref (s.heap.objs.size + 1) :: us ++ ds).length = ps.length := by
    have e := r2.length
    rw [F.len _ _ _ _ hq] at e
    exact e.symm
  refine wpAny_call (make_map (f := f) I.kIn M.makes M.init (beq_iff_eq.mp M.fn) (codeAny_mono (F.run _ X.stack _ _ ⟨Value.ref (s.heap.objs.size + 1) :: us, []⟩ (Value.ref (s.heap.objs.size + 1) :: (us ++ ds)) _ _ (E sg) (hr.make C us [])
    (I2.env0.make C us []) (hb _ (Value.ref (s.heap.objs.size + 1) :: us) I2.kIn hl) r2 hq) fun r s' hq' => ?_))
  cases r with
  | error e => exact hx pins _ _ e s' I2 hq'
  | ok fl =>
    cases fl with
    | ret u =>
      obtain ⟨v, H', I3, rv, ev, q3⟩ := I2.after hq'
      subst ev
      exact ⟨rv, ⟨V.ref (s.heap.objs.size + 1), H', I3, rfl, q3⟩⟩
    | next => exact False.elim hq'
    | brk => exact False.elim hq'
    | cont => exact False.elim hq'
theorem pe_makeSD {C f : Addr} {fd : FuncData} {ps : List Str} {ds : List Value} {dvs : List V} {sp : Sp} {CX : CXT} {E : St → XK} {t : TA} (M : Mk X.K C f) (F : FnG X.prog X.w X.K X.mg X.base CX k f fd ps sp) (hr : RoomG (k + 1) X.A) (hg : Gl X x) (hm : X.mg x = some (.ref C)) (hb : Binds X.K fd ps ds) (hd : Vals dvs ds) (hx : ∀ s, PassesAt CX X s (E s))
    (ha : PA X (e :: es) t) (hdb : (x == ("__debug__" : Str)) = false := by decide) (he : starEach (e :: es) X.env = (false, eval e X.env) :: starEach es X.env := by rfl) (hpl : (backTo pos (starEach es X.env)).any (·.1) = false := by rfl) :
    PE X (.Call (.Name x p) (e :: es) [] pos) (tMakeSD C sp dvs E t) := by
  refine ⟨fun pins s sg H Q I h => ?_⟩
  refine wpAny_Call_Name_kw (ld_glob I hg hm ?_ hdb)
  refine PySem.W.callWith_K (h₀ := X.base) I.ok.mod.kin M.kp (thn (ha.run pos pins s sg H _ I h) fun us s1 ⟨vs, H1, I1, r, q⟩ => ⟨I1.kIn, ?_⟩) he hpl
  exact run_makeSD M F hr hb hd (hx sg) I1 r q
theorem make_C {K : PySem.W.Frag} {xi : Xi} {F H : Hp} {sg : St} {de : DEnv} {O : Own?} {c : Nat} {vs : List V} {ds : List D} {Q : VK} (R : RS K kap xi F H sg de O) (r : Reps K kap F vs ds)
    (hp : PE1 K kap (RlF K kap) xi F H sg de O W Q (makeC c n md ds de)) (a dx : Addr) (ha : H a = none) (hdx : H dx = none) (hne : dx ≠ a) :
    spD K kap n (some 0) md (.ref a :: vs) (upd (upd H dx (.own a)) a (.ins (kap c) dx [])) (fun v H2 => v = .non ∧ Q (.ref a) H2) (WE W sg) := by
  unfold makeC at hp
  split at hp
  · rename_i hn
    have s1 : Same H (upd (upd H dx (.own a)) a (.ins (kap c) dx [])) := fun b o e => by rw [upd_ne (ne_of_none e ha), upd_ne (ne_of_none e hdx)]; exact e
    have fa : F a = none := R.sub.free ha
    refine ⟨F, .obj c [] :: ds, some a, by rw [List.length_cons]; exact hn, ⟨R.sub.trans s1, R.nt, (R.tab.upd (.none hdx) (.ext (by simp) (by simp))).upd (.none (by rw [upd_ne (Ne.symm hne)]; exact ha)) (.ext (by simp) (by simp))⟩, ⟨congrArg Nat.succ r.length, fun i d h hm => ?_, fun k d e h => ?_, fun _ => ⟨0, _, rfl, rfl⟩⟩, ?_⟩
    · cases i with
      | zero => exact absurd rfl hm
      | succ i =>
        obtain ⟨v, h1, h2⟩ := r.get (i := i) (by simpa using h)
        exact ⟨v, by simpa using h1, h2⟩
    · cases e
      simp at h
      subst h
      exact ⟨a, rfl, rfl, fa, dx, [], upd_same, rfl, .nil⟩
    · have back : ∀ {F' H' : Hp} {q : Option D}, FPost K kap F (upd (upd H dx (.own a)) a (.ins (kap c) dx [])) F' H' (some a) q → RS K kap xi F' H' sg de O ∧ Go F H de O F' H' de O := fun {F' H' q} f => by
        have hO : ∀ i p, O i = some p → H' p = H p ∧ F' p = none := fun i p e => by
          obtain ⟨d, k4⟩ := R.heldOwn e
          have k3 := (R.held e).1
          obtain ⟨o, ho⟩ := k4.some
          have h2 := s1 p o ho
          have nz : some a ≠ some p := fun z => by cases z; rw [ha] at ho; cases ho
          refine ⟨by rw [f.keep p o h2 (fun ps z => k4.notTbl ps (by rw [ho, z])) nz, ho], ?_⟩
          cases z : F' p with
          | none => rfl
          | some u =>
            rcases f.fnew p (by rw [z]; simp) with w | w
            · exact absurd k3 w
            · rw [h2] at w; cases w
        refine ⟨R.keepO f.ex f.st0 hO, f.ex, fun b o e t _ => f.keep b o (s1 b o e) t (fun z => by cases z; rw [ha] at e; cases e), fun i b e => .inl ⟨i, e⟩, fun b e => ?_, fun b e => ?_, fun i d e => ⟨rfl, d, e⟩⟩
        · exact s1.free (f.dom b e)
        · exact (f.fnew b e).elim .inl fun z => .inr (.inl (s1.free z))
      cases eo : md (.obj c [] :: ds) with
      | ret d q =>
        rw [eo] at hp
        cases d with
        | non =>
          cases q with
          | some d' =>
            intro v F' H' f rv
            cases rv
            refine ⟨rfl, ?_⟩
            obtain ⟨R', g⟩ := back f
            obtain ⟨d2, e2, h1, h2⟩ := f.own a rfl
            cases e2
            exact hp (.ref a) F' H' O R' g ⟨a, rfl, h1, h2, R.nofresh ha⟩ fun _ z => by cases z; exact .inl ha
          | none => exact hp.elim
        | _ => exact hp.elim
      | ex c' fs q =>
        rw [eo] at hp
        cases q with
        | some d' =>
          intro F' H' d f h1
          obtain ⟨R', g⟩ := back f
          exact hp F' H' sg O d R' g h1
        | none => exact hp.elim
      | retF d q => rw [eo] at hp; exact hp.elim
      | bad => rw [eo] at hp; exact hp.elim
  · exact hp.elim
variable {tb : WX → TA} {eb : DEnv → Rs (List D)}
theorem jMake (c : Nat) {C : Addr} (hk : kap c = C) (g : DG X.prog X.w X.K X.mg X.base kap k n (some 0) md dcs) (M : Mk X.K C g.f) (hm : X.mg x = some (.ref C)) (hr : RoomG (k + 1) X.A) (tk : Takes X W) (ha : JA kap xi X W (e :: es) tb eb) (hg : Gl X x := by rfl) (hdb : (x == ("__debug__" : Str)) = false := by decide)
    (he : starEach (e :: es) X.env = (false, eval e X.env) :: starEach es X.env := by rfl) (hpl : (backTo pos (starEach es X.env)).any (·.1) = false := by rfl) :
    JF kap xi X W (.Call (.Name x p) (e :: es) [] pos) (fun W => tMakeSD C (spD X.K kap n (some 0) md) g.dvs (WE W) (tb W)) (wMake c n md dcs eb) :=
  ⟨pe_makeSD M g.ok hr hg hm g.bi g.vs (fun s => passAt tk s) ha.p hdb he hpl, by
    subst hk
    intro W F H sg de O Q R hp
    refine ha.s.bind R hp fun vs ds F1 H1 de1 O1 R1 g1 r _ hp => ?_
    intro a dx h1 h2 h3
    exact make_C R1 (Reps.append r (g.rs F1)) hp a dx h1 h2 h3⟩
end
end DL
namespace DL
open PySem L2 PySem.Spec PyProof.Rows RT RZ
def ItOk (K : PySem.W.Frag) (kap : Kp) (J : It) (F1 : Hp) (ds : List D) : Prop := ∀ (i : Nat) (F2 H2 : Hp), Same F1 F2 → Same F2 H2 →
  (ds.length ≤ i → J.stop i H2) ∧ ∀ d, ds[i]? = some d → J.go i H2 ∧ ∀ x H', J.yld i H2 x H' → ∃ F', New kap.tab F2 H2 F' H' ∧ Same F' H' ∧ Rep K kap F' x d
theorem ItOk.mono {K : PySem.W.Frag} {kap : Kp} {J : It} {F1 F2 : Hp} {ds : List D} (e : Same F1 F2) (h : ItOk K kap J F1 ds) : ItOk K kap J F2 ds := fun i F H e1 e2 => h i F H (e.trans e1) e2
def RlI (K : PySem.W.Frag) (kap : Kp) : Rel It (List D) := { rel := fun _ F _ _ J ds => ItOk K kap J F ds }
structure JI (kap : Kp) (xi : Xi) (X : Cx) (W : WX) (tg iter : Expr) (wi : WX → TI) (ev : DEnv → Rs (List D)) : Prop where
  p : PI X tg iter (wi W)
  s : Snd X.K kap xi (RlI X.K kap) wi ev
def itemsOf : D → Option (List D)
  | .lst ds => some ds
  | .tup ds => some ds
  | .scr ds => some ds
  | _ => none
def vSeqI (ev : DEnv → Rs D) (de : DEnv) : Rs (List D) := (ev de).bind fun d de1 => ofO (itemsOf d) de1
def iSeq (K : PySem.W.Frag) (tl : TE) : TI := fun σ H R => tl σ H fun x H1 => ∃ a, x = .ref a ∧ (((∃ xs, SqL K H1 a xs) ∧ R (Itl K a) H1) ∨ ((∃ xs, SqT K H1 a xs) ∧ R (Itt K a) H1))
theorem pi_seq {X : Cx} {tg l : Expr} {tl : TE} (hl : PE X l tl) : PI X tg l (iSeq X.K tl) := by
  refine ⟨fun pins s σ H R I h => ?_⟩
  refine thn (hl.run pins s σ H _ I h) fun v s1 ⟨x, H1, I1, r1, q1⟩ => ?_
  obtain ⟨a, e, q⟩ := q1
  subst e
  cases r1
  rcases q with ⟨⟨xs, hq⟩, q⟩ | ⟨⟨xs, hq⟩, q⟩
  · obtain ⟨its, rv, p, hz⟩ := I1.list hq
    refine wpAny_pyIter_list p.isList ?_
    refine ⟨s1.heap.objs.size, [s1.heap.objs.size], _, _, H1, rfl, I1.kept (t' := s1.toks) fun b o e => Heap.get?_push_of_some _ e, turn_list a _, ⟨_, Heap.get?_push_size _ rfl, rfl, rfl⟩, fun b hb => ?_, q⟩
    have e : b = s1.heap.objs.size := by simpa using hb
    subst e
    exact I1.fpOk (Nat.le_refl _) (I1.hok.fresh (Nat.le_refl _))
  · obtain ⟨its, rv, p, hz⟩ := I1.tuple hq
    refine wpAny_pyIter_tuple (show s1.heap.IsTuple a its.toArray from p) ?_
    refine ⟨s1.heap.objs.size, [s1.heap.objs.size], _, _, H1, rfl, I1.kept (t' := s1.toks) fun b o e => Heap.get?_push_of_some _ e, turn_tuple a _, ⟨_, Heap.get?_push_size _ rfl, rfl, rfl⟩, fun b hb => ?_, q⟩
    have e : b = s1.heap.objs.size := by simpa using hb
    subst e
    exact I1.fpOk (Nat.le_refl _) (I1.hok.fresh (Nat.le_refl _))
section
variable {K : PySem.W.Frag} {kap : Kp} {xi : Xi} {F : Hp} {a b : Addr} {vs ws : List V} {ds es : List D}
theorem itl_ok (h : SqL K F a vs) (r : Reps K kap F vs ds) : ItOk K kap (Itl K a) F ds := fun i F2 H2 e1 e2 => by
  have h2 : SqL K H2 a vs := sqL_mono (e1.trans e2) h
  refine ⟨fun hl => ⟨vs, h2, by rw [r.length]; exact hl⟩, fun d hd => ?_⟩
  obtain ⟨v, g1, g2⟩ := r.get hd
  refine ⟨⟨vs, v, h2, g1⟩, fun x H' ⟨e, y⟩ => ?_⟩
  subst e
  have := y vs h2
  rw [g1] at this
  cases this
  exact ⟨F2, New.refl, e2, g2.mono e1⟩
theorem itt_ok (h : SqT K F a vs) (r : Reps K kap F vs ds) : ItOk K kap (Itt K a) F ds := fun i F2 H2 e1 e2 => by
  have h2 : SqT K H2 a vs := sqT_mono (e1.trans e2) h
  refine ⟨fun hl => ⟨vs, h2, by rw [r.length]; exact hl⟩, fun d hd => ?_⟩
  obtain ⟨v, g1, g2⟩ := r.get hd
  refine ⟨⟨vs, v, h2, g1⟩, fun x H' ⟨e, y⟩ => ?_⟩
  subst e
  have := y vs h2
  rw [g1] at this
  cases this
  exact ⟨F2, New.refl, e2, g2.mono e1⟩
def rangeD (lo : Int) (n : Nat) : List D := (List.range n).map fun i => .int (lo + (i : Nat))
theorem itr_ok (lo : Int) (n : Nat) : ItOk K kap (Itr lo n) F (rangeD lo n) := fun i F2 H2 e1 e2 => by
  refine ⟨fun hl => (show n ≤ i by simpa [rangeD] using hl), fun d hd => ?_⟩
  unfold rangeD at hd
  rw [List.getElem?_map] at hd
  by_cases il : i < n
  · rw [List.getElem?_range il] at hd
    cases hd
    refine ⟨il, fun x H' ⟨e, y⟩ => ?_⟩
    subst e y
    exact ⟨F2, New.refl, e2, .int _⟩
  · rw [List.getElem?_eq_none (by simpa using il)] at hd
    cases hd
theorem rep_items {F : Hp} {v : V} {d : D} {ds : List D} (r : Rep K kap F v d) (h : itemsOf d = some ds) : ∃ a vs, v = .ref a ∧ Reps K kap F vs ds ∧ (SqL K F a vs ∨ SqT K F a vs) := by
  cases r with
  | tup h1 r => cases h; exact ⟨_, _, rfl, r, .inr h1⟩
  | lst h1 r => cases h; exact ⟨_, _, rfl, r, .inl (SqL.of h1)⟩
  | scr h1 r => cases h; exact ⟨_, _, rfl, r, .inl h1⟩
  | _ => cases h
end
def vRng1 (ev : DEnv → Rs D) (de : DEnv) : Rs (List D) := (ev de).bind fun d de1 => match d with
  | .int j => if -(2 ^ 62) ≤ j ∧ j < 2 ^ 62 then .ok (rangeD 0 j.toNat) de1 else .bad
  | _ => .bad
section
variable {kap : Kp} {xi : Xi} {X : Cx} {W : WX} {tg e e' : Expr} {t t' : WX → TE} {ev ev' : DEnv → Rs D} {pos p tpos : Pos} {elts : List Expr} {kk : Nat}
theorem jiSeq (h : JE kap xi X W e t ev) : JI kap xi X W tg e (fun W => iSeq X.K (t W)) (vSeqI ev) := ⟨pi_seq h.p, by
  intro W F H sg de O Q R hp
  refine h.s.bind R hp fun v d F1 H1 de1 O1 R1 g1 r _ hp => ?_
  obtain ⟨ds, e, hp⟩ := ofO_some hp
  obtain ⟨a, vs, rfl, rr, hq⟩ := rep_items r e
  refine ⟨a, rfl, ?_⟩
  rcases hq with hq | hq
  · exact .inl ⟨⟨vs, sqL_mono R1.sub hq⟩, hp.done R1 New.refl R1.sub (itl_ok hq rr)⟩
  · exact .inr ⟨⟨vs, sqT_mono R1.sub hq⟩, hp.done R1 New.refl R1.sub (itt_ok hq rr)⟩⟩
theorem jiRng1 (hm : X.mg "range" = none) (h : JE kap xi X W e t ev) (hg : Gl X "range" := by rfl) (hs : starEach [e] X.env = [(false, eval e X.env)] := by rfl) : JI kap xi X W tg (.Call (.Name "range" p) [e] [] pos) (fun W => iRng1 (tCons (t W) tNil)) (vRng1 ev) := ⟨pi_range1 hg hm (pa_cons h.p pa_nil hs) hs, by
  intro W F H sg de O Q R hp
  refine h.s.bind R hp fun v d F1 H1 de1 O1 R1 g1 r _ hp => ?_
  cases r with
  | int j =>
    dsimp only at hp
    split at hp
    · rename_i hh
      exact ⟨j, rfl, hh.1, hh.2, hp.done R1 New.refl R1.sub (itr_ok _ _)⟩
    · exact hp.elim
  | _ => exact hp.elim⟩
end
structure JG (kap : Kp) (X : Cx) (tg : Expr) (g : TG) (is : List Nat) (ev : D → DEnv → Option DEnv) : Prop where
  p : PG X tg g
  s : ∀ xi F H sg de O v d de' Q, RS X.K kap xi F H sg de O → Rep X.K kap F v d → ev d de = some de' → (∀ sg' O', RS X.K kap xi F H sg' de' O' → Go F H de O F H de' O' → (∀ j, j ∉ is → sg'[j]? = sg[j]?) → sg'.length = sg.length → Q sg' H) → g v sg H Q
structure JGs (kap : Kp) (X : Cx) (tgs : List Expr) (g : TGs) (is : List Nat) (ev : List D → DEnv → Option DEnv) : Prop where
  p : PGs X tgs g
  s : ∀ xi F H sg de O vs ds de' Q, RS X.K kap xi F H sg de O → Reps X.K kap F vs ds → ev ds de = some de' → (∀ sg' O', RS X.K kap xi F H sg' de' O' → Go F H de O F H de' O' → (∀ j, j ∉ is → sg'[j]? = sg[j]?) → sg'.length = sg.length → Q sg' H) → g vs sg H Q
def tName (i : Nat) (d : D) (de : DEnv) : Option DEnv := some (de.set i (.va d))
def tgNil (ds : List D) (de : DEnv) : Option DEnv := match ds with | [] => some de | _ => none
def tgCons (f : D → DEnv → Option DEnv) (g : List D → DEnv → Option DEnv) (ds : List D) (de : DEnv) : Option DEnv := match ds with | [] => none | d :: r => (f d de).bind fun de1 => g r de1
def tgTup (n : Nat) (g : List D → DEnv → Option DEnv) (d : D) (de : DEnv) : Option DEnv := match d with | .tup ds => if ds.length = n then g ds de else none | _ => none
section
variable {kap : Kp} {xi : Xi} {X : Cx} {e : Expr} {es : List Expr} {g : TG} {gs : TGs} {is js : List Nat} {ev : D → DEnv → Option DEnv} {evs : List D → DEnv → Option DEnv} {pos : Pos}
theorem jgName (i : Nat) {x : Str} (hN : X.N.Nodup) (hi : X.N[i]? = some x := by rfl) (hx : Loc X.env.scope x := by first | exact Or.inl rfl | exact Or.inr rfl) (hf : X.fn x = true ∨ X.env.scope.names.lookup x = some .local := by first | exact .inl rfl | exact .inr rfl | assumption) :
    JG kap X (.Name x pos) (gName i) [i] (tName i) := ⟨pg_name hN hi hx hf, by
  intro xi F H sg de O v d de' Q R r e hq
  cases e
  obtain ⟨R2, g2⟩ := R.setv i r
  exact hq _ _ R2 g2 (fun j h => List.getElem?_set_ne fun z => h (by simp [z])) (List.length_set ..)⟩
theorem jgsNil : JGs kap X [] gNil [] tgNil := ⟨pgs_nil, by
  intro xi F H sg de O vs ds de' Q R r e hq
  cases r with
  | nil => cases e; exact ⟨rfl, hq _ _ R Go.refl (fun _ _ => rfl) rfl⟩
  | cons _ _ => cases e⟩
theorem jgsCons (h : JG kap X e g is ev) (hr : JGs kap X es gs js evs) (hs : (assignEach (e :: es) X.env).map (·.2) = assign e X.env :: (assignEach es X.env).map (·.2) := by rfl) : JGs kap X (e :: es) (gCons g gs) (is ++ js) (tgCons ev evs) := ⟨pgs_cons h.p hr.p hs, by
  intro xi F H sg de O vs ds de' Q R r e hq
  cases r with
  | nil => cases e
  | cons r rr =>
    obtain ⟨de1, e1, e2⟩ := bind_some e
    refine ⟨_, _, rfl, h.s xi F H sg de O _ _ de1 _ R r e1 fun sg1 O1 R1 g1 k1 l1 => ?_⟩
    exact hr.s xi F H sg1 de1 O1 _ _ de' _ R1 rr e2 fun sg2 O2 R2 g2 k2 l2 => hq sg2 O2 R2 (g1.trans g2) (fun j hj => by
      rw [List.mem_append, not_or] at hj
      rw [k2 j hj.2, k1 j hj.1]) (l2.trans l1)⟩
theorem jgTup {k : Nat} (n : Nat) (h : JGs kap X es gs is evs) (hc : X.calm = true := by rfl) (hn : (assignEach es X.env).length = n := by rfl) (hst : (assignEach es X.env).findIdx? (·.1) = none := by rfl) : JG kap X (.Tuple es k pos) (gTup X.K n gs) is (tgTup n evs) := ⟨pg_tup hc h.p hn hst, by
  intro xi F H sg de O v d de' Q R r e hq
  cases r with
  | tup h1 rr =>
    unfold tgTup at e
    dsimp only at e
    split at e
    · rename_i hl
      exact ⟨_, _, rfl, sqT_mono R.sub h1, by rw [rr.length]; exact hl, h.s xi F H sg de O _ _ de' _ R rr e hq⟩
    · cases e
  | _ => cases e⟩
end
def vLoop (g : D → DEnv → Option DEnv) (tb : DEnv → Ot) : List D → DEnv → Ot
  | [], de => .nx de
  | d :: r, de => match g d de with
    | none => .bad
    | some de1 => match tb de1 with
      | .nx de2 => vLoop g tb r de2
      | .ct de2 => vLoop g tb r de2
      | .brk de2 => .nx de2
      | .ret d de2 => .ret d de2
      | .retF d de2 => .retF d de2
      | .ex c fs de2 => .ex c fs de2
      | .bad => .bad
def vFor (ei : DEnv → Rs (List D)) (g : D → DEnv → Option DEnv) (tb : DEnv → Ot) (de : DEnv) : Ot := (ei de).out fun ds de1 => vLoop g tb ds de1
section
variable {kap : Kp} {xi : Xi} {X : Cx} {W : WX} {tg iter e : Expr} {body : List Stmt} {wi : WX → TI} {g : TG} {is : List Nat} {ei : DEnv → Rs (List D)} {eg : D → DEnv → Option DEnv} {tb : WX → TS} {eb : DEnv → Ot} {t : WX → TE} {ev : DEnv → Rs D} {pos : Pos}
theorem jFor (hp : PassesOwn (model X.prog X.w) X.A X.env X.xe) (hi : JI kap xi X W tg iter wi ei) (hg : JG kap X tg g is eg) (hb : JSs kap xi X W body tb eb) (hc : X.calm = true := by rfl) (hs : ∀ x, foldedSetIterable iter X.env x = pure x := by intro _; rfl) :
    JS kap xi X W (.For tg iter body [] pos) (fun W => tFor (wi W) g (tb W)) (vFor ei eg eb) := ⟨ps_for hp hc hi.p hg.p hb.p hs, by
  intro W F H sg de O Dn R hp
  refine hi.s.out R hp fun J ds F1 H1 de1 O1 R1 g1 ij _ hp => ?_
  refine ⟨fun i m σ Hc => m = ds.length - i ∧ i ≤ ds.length ∧ ∃ Fc dc Oc, Same F1 Fc ∧ RS X.K kap xi Fc Hc σ dc Oc ∧ PS1 X.K kap xi Fc Hc dc Oc W Dn (vLoop eg eb (ds.drop i) dc), ⟨ds.length, by simp, Nat.zero_le _, F1, de1, O1, Same.refl _, R1, by simpa using hp⟩, ?_⟩
  rintro i m σ Hc ⟨rfl, hil, Fc, dc, Oc, ex, Rc, hq⟩
  obtain ⟨hstop, hgo⟩ := ij i Fc Hc ex Rc.sub
  by_cases hlt : i < ds.length
  · have hd : ds[i]? = some ds[i] := by simp [hlt]
    obtain ⟨go, hy⟩ := hgo _ hd
    refine .inr ⟨go, fun σ' H' => ∃ Fc dc Oc, Same F1 Fc ∧ RS X.K kap xi Fc H' σ' dc Oc ∧ PS1 X.K kap xi Fc H' dc Oc W Dn (vLoop eg eb (ds.drop (i + 1)) dc), fun σ' H' p' => ⟨ds.length - (i + 1), by omega, rfl, hlt, p'⟩, fun x H' y => ?_⟩
    obtain ⟨F2, n2, s2, r2⟩ := hy x H' y
    have R2 := Rc.new n2 s2
    have hq := PS1.shift (n2.go (de := dc) (O := Oc)) hq
    rw [List.drop_eq_getElem_cons hlt] at hq
    unfold vLoop at hq
    cases eg1 : eg ds[i] dc with
    | none => rw [eg1] at hq; exact hq.elim
    | some dc1 =>
      rw [eg1] at hq
      refine hg.s xi F2 H' σ dc Oc x _ dc1 _ R2 r2 eg1 fun sg' O' R3 g3 _ _ => ?_
      have hq := PS1.shift g3 hq
      dsimp only at hq
      refine hb.s W F2 H' sg' dc1 O' _ R3 ?_
      cases eo : eb dc1 with
      | nx dc2 =>
        rw [eo] at hq
        exact fun F' H'' sg'' O'' R4 g4 => ⟨F', dc2, O'', (ex.trans n2.f).trans g4.ex, R4, PS1.shift g4 hq⟩
      | ct dc2 =>
        rw [eo] at hq
        exact fun F' H'' sg'' O'' R4 g4 => ⟨F', dc2, O'', (ex.trans n2.f).trans g4.ex, R4, PS1.shift g4 hq⟩
      | brk dc2 => rw [eo] at hq; exact hq
      | ret d dc2 => rw [eo] at hq; exact hq
      | retF d dc2 => rw [eo] at hq; exact hq
      | ex c fs dc2 => rw [eo] at hq; exact hq
      | bad => rw [eo] at hq; exact hq.elim
  · refine .inl ⟨hstop (Nat.le_of_not_lt hlt), ?_⟩
    rw [List.drop_eq_nil_of_le (Nat.le_of_not_lt hlt)] at hq
    exact hq Fc Hc σ Oc Rc Go.refl⟩
def vAsg (ev : DEnv → Rs D) (g : D → DEnv → Option DEnv) (de : DEnv) : Ot := (ev de).out fun d de1 => match g d de1 with | some de2 => .nx de2 | none => .bad
theorem jAsg (h : JE kap xi X W e t ev) (hg : JG kap X tg g is eg) (hs : swapsWithSole [tg] e pos.line X.env = pure false := by rfl) (hw : swappedStores [tg] e X.env = pure none := by rfl) (h1 : (assignEach [tg] X.env).map (·.2) = [assign tg X.env] := by rfl) : JS kap xi X W (.Assign [tg] e pos) (fun W => tAsg (t W) g) (vAsg ev eg) := ⟨ps_asg h.p hg.p hs hw h1, by
  intro W F H sg de O Dn R hp
  refine h.s.out R hp fun v d F1 H1 de1 O1 R1 g1 r _ hp => ?_
  cases e : eg d de1 with
  | none => rw [e] at hp; exact hp.elim
  | some de2 =>
    rw [e] at hp
    refine hg.s xi F1 H1 sg de1 O1 v d de2 _ R1 r e fun sg' O' R2 g2 _ _ => hp F1 H1 sg' O' R2 g2⟩
end
end DL
namespace DX
open PySem PySem.Spec PySem.W PySem.Calls PyProof.Rows PySem.HandSPX
abbrev veTail : List Value := [.type "ValueError", .type "Exception", .type "BaseException", .type "object"]
theorem boot_super : bootBuiltins ("super" : Str) = some (.type "super") := by kernel_rfl
structure XT (P : Program) (K : Frag) (C fI cda cc : Addr) (fnm qual : Str) (ar : Arguments) (bo : List Stmt) (sc : Scope) (par : Str) : Prop where
  cls : ∃ nm q N bs bm sn sub ab col dd k0 k1 k2 k3 k5, K.lookup C = some (excClassObj nm q C N bs bm true sn sub ab col dd k0 k1 k2 k3 k5 "ValueError.__new__") ∧ refsVE bm = true
  sa : findIn K (.ref C) "__setattr__" = some (some (.builtin "object.__setattr__"))
  iC : findIn K (.ref C) "__init__" = some (some (.ref fI))
  tC : typeIn K (.ref fI) = some (.type "function")
  kC : keepIn K (.ref C) = true
  exC : subIn K (.ref C) (.type "BaseException") = some true
  tyC : typeIn K (.ref C) = some (.type "type")
  ei : excInitIn K C veTail "ValueError.__new__" = true
  sI : ks_superIn K C C "__init__" = some (some (.builtin "ValueError.__init__"))
  ve : subIn K (.ref C) (.type "ValueError") = some true
  mC : mroIn K C (.ref C) = some true
  any : nsIn K cStatics "thirdparty.any" = some none
  nos : nsIn K mainGlobals "super" = some none
  noN : findIn K (.ref C) par = some none
  fn : ∃ oc od osl doc pm an ct, K.lookup fI = some ⟨oc, od, .func (ksFn fnm qual ar bo sc .none .none doc pm an (.ref cda) ct cc), osl⟩ ∧ codeIn K (.ref cda) qual = true
  cdo : ∃ ccl cdd ccs vs file tf, K.lookup cda = some ⟨ccl, cdd, .fields vs, ccs⟩ ∧ vs[2]? = some (.str file tf) ∧ ((P.main.file : Str) == file) = true
  cel : ∃ cl cld csl, K.lookup cc = some ⟨cl, cld, .cell (some (.ref C)), csl⟩
  top : (P.main.scope.names.lookup ("super" : Str)).isSome = false
structure Md (K : Frag) (mg : Str → Option Value) (h₀ : Heap) : Prop where
  kin : K.In h₀
  glob : h₀.Ns mainGlobals mg
  blt : ∃ mb, h₀.Ns builtinsNs mb ∧ ∀ x : Str, x ≠ "__name__" → mb x = bootBuiltins x
theorem clsIn_mro {K : Frag} {C : Addr} (h : mroIn K C (.ref C) = some true) : ∃ cd, clsIn K C = some cd := by
  cases e : clsIn K C with
  | none => unfold mroIn at h; rw [e] at h; cases h
  | some cd => exact ⟨cd, rfl⟩
section
variable {P : Program} {w : World} {A : Around} {E : Value → Shared → Prop} {s : Shared} {K : Frag} {mg : Str → Option Value} {C fI cda cc : Addr} {fnm qual par : Str} {ar : Arguments} {bo body : List Stmt} {sc : Scope} {h₀ : Heap} {L x t0 : Addr} {m : Str → Option Value}
theorem sup_node {p0 p1 : Pos} {whole : Sem Value} {Q : Value → Shared → Prop} {news : List (Addr × Obj)} {ox : Obj} {odx : Option Obj} {ar0 : Arg} (T : XT P K C fI cda cc fnm qual ar bo sc par) (G : Md K mg h₀) (F : Fr h₀ L s.heap m) (N : News h₀ L s.heap news)
    (hp : (ar.posonlyargs ++ ar.args).head? = some ar0) (hv : m ar0.arg = some (.ref x)) (I : InstAt s.heap x ox C odx)
    (hks : sc.names.lookup ("super" : Str) = some .globalImplicit) (hkc : sc.names.lookup ("__class__" : Str) = some .free) (hka : sc.names.lookup ar0.arg = some .local) (hk : sc.kind = .function)
    (h : ∀ so h', Fr h₀ L h' m → News h₀ L h' ((so, ks_superObj C x C) :: news) → (∀ p ∈ news, p.1 < so) → Q (.ref so) { s with heap := h' }) :
    _root_.PySem.wpAt (model P w) A (.func body (ksEnv qual sc L fI (.ref cda) cc)) (attributeBase (.Call (.Name "super" p0) [] [] p1) "__init__" (ksEnv qual sc L fI (.ref cda) cc) whole) Q E s := by
  obtain ⟨oc, od, osl, doc, pm, an, ct, hf, _⟩ := T.fn
  obtain ⟨ccl, cdd, ccs, vs, file, tf, hcode, hvs, hfile⟩ := T.cdo
  obtain ⟨cl, cld, csl, hcell⟩ := T.cel
  obtain ⟨cdD, hD⟩ := clsIn_mro T.mC
  obtain ⟨mb, hb1, hb2⟩ := G.blt
  have XH : K.In s.heap := G.kin.keeps F.keep
  obtain ⟨hh, g, d, t, os⟩ := s
  have hcls : ∃ oD, hh.get? C = some oD ∧ oD.data = .cls cdD := by
    unfold clsIn at hD
    split at hD
    · rename_i q
      cases hD
      exact ⟨_, XH _ _ q, rfl⟩
    · cases hD
  obtain ⟨oD, hD1, hD2⟩ := hcls
  refine ks_wpAt_super_base hks hkc rfl rfl (XH _ _ hf) rfl hp rfl (XH _ _ hcode) rfl hvs hfile T.top ?_
  refine ks_loadName_global hk hks ?_
  refine loadGlobal_builtin (G.glob.keeps F.keep) (mg_none_of G.kin G.glob T.nos) (hb1.keeps F.keep) ((hb2 _ (by decide)).trans boot_super) ⟨rfl, ?_⟩
  refine wpAny_loadName_free hk hkc rfl ⟨_, XH _ _ hcell, rfl⟩ ?_
  refine wpAny_loadName_local hk hka F.ns hv ?_
  refine ks_wpAny_isType_cls hD1 hD2 ⟨rfl, ?_⟩
  refine ks_wpAny_call_super hD1 hD2 I.at_ I.cls (fun c e => ?_) (looks_mroIn XH T.mC) fun h' e k => ?_
  · have z := I.no
    unfold notCls at z
    rw [e] at z
    cases z
  · obtain ⟨F', N', l'⟩ := ks_newsPush (s := ⟨hh, g, d, t, os⟩) F N rfl e k
    exact h _ _ F' N' l'
theorem sup_step {p0 p1 p2 p3 p4 : Pos} {ea : Expr} {Q : Flow → Shared → Prop} {ar0 : Arg} (T : XT P K C fI cda cc fnm qual ar bo sc par) (G : Md K mg h₀) (F : Fr h₀ L s.heap m) (N : News h₀ L s.heap [(x, excObj C t0 none .none)])
    (hp : (ar.posonlyargs ++ ar.args).head? = some ar0) (hv : m ar0.arg = some (.ref x))
    (hks : sc.names.lookup ("super" : Str) = some .globalImplicit) (hkc : sc.names.lookup ("__class__" : Str) = some .free) (hka : sc.names.lookup ar0.arg = some .local) (hk : sc.kind = .function)
    (hev : ∀ (s' : Shared) (Q' : Value → Shared → Prop), s'.heap.Ns L m → (∀ u k, Q' u { s' with toks := k }) → wpAny (model P w) A (eval ea (ksEnv qual sc L fI (.ref cda) cc)) Q' E s')
    (h : ∀ t' h' k, Fr h₀ L h' m → News h₀ L h' [(x, excObj C t' none .none)] → Q .next { s with heap := h', toks := k })
    (hst : starEach [ea] (ksEnv qual sc L fI (.ref cda) cc) = (false, eval ea (ksEnv qual sc L fI (.ref cda) cc)) :: starEach [] (ksEnv qual sc L fI (.ref cda) cc) := by rfl)
    (hin : interactive (ksEnv qual sc L fI (.ref cda) cc) = false := by rfl)
    {pl : Sem Bool} (he : eval (.Call (.Attribute (.Call (.Name "super" p0) [] [] p1) "__init__" p2) [ea] [] p3) (ksEnv qual sc L fI (.ref cda) cc) = (do
      let ov ← attributeBase (.Call (.Name "super" p0) [] [] p1) "__init__" (ksEnv qual sc L fI (.ref cda) cc) (eval (.Call (.Name "super" p0) [] [] p1) (ksEnv qual sc L fI (.ref cda) cc))
      standAt p2.atName
      let (f, first) ← holding [ov] (getMethod ov "__init__" pl)
      callWith p3 f first (backTo p3 (starEach [ea] (ksEnv qual sc L fI (.ref cda) cc))) []) := by rfl) :
    _root_.PySem.wpAt (model P w) A (.func body (ksEnv qual sc L fI (.ref cda) cc)) (exec (.Expr (.Call (.Attribute (.Call (.Name "super" p0) [] [] p1) "__init__" p2) [ea] [] p3) p4) (ksEnv qual sc L fI (.ref cda) cc)) Q E s := by
  refine ks_wpAt_Expr_any (hi := hin) (ks_wpAt_MethodCall (pl := pl) ?_ he)
  have XH : K.In s.heap := G.kin.keeps F.keep
  refine sup_node T G F N hp hv (InstAt.of_exc0 N (.head _)) hks hkc hka hk fun so h1 F1 N1 l1 => ?_
  refine kxs_method (s := { s with heap := h1 }) kxs_ValueError F1 G.kin N1 (.head _) (InstAt.of_exc0 N1 (.tail _ (.head _))) T.any T.sI T.ve rfl fun q h2 F2 N2 l2 => ?_
  refine kxs_callWith1 N2 (.head _) (args_cons (hev _ _ F2.ns fun u k => args_nil ⟨kxs_at N2 (.head _), ?_⟩) hst) hst rfl
  have nso : so ≠ x := fun z => by
    have := l1 (x, excObj C t0 none .none) (.head _)
    rw [z] at this
    exact absurd this (Nat.lt_irrefl _)
  have nq : q ≠ x := fun z => by
    have := l2 (x, excObj C t0 none .none) (.tail _ (.head _))
    rw [z] at this
    exact absurd this (Nat.lt_irrefl _)
  refine kxs_call (s := { s with heap := h2, toks := k }) F2 G.kin N2 PySem.F.excBase_ValueError T.ei (.head _) (.tail nq (.tail nso (.head fun _ h => nomatch h))) (by rw [sizeLine_eq]; exact (by decide : 1 ≤ 16777216)) fun t' h3 F3 N3 l3 => ?_
  exact h t' h3 k F3 fun p hp => N3 p (.tail _ (.tail _ (.tail _ hp)))
structure InitEnd (K : Frag) (h h' : Heap) (x C dx t1 : Addr) (par : Str) (v : Value) : Prop where
  keep : ∀ b o, b ≠ x → h.get? b = some o → h'.get? b = some o
  obj : h'.get? x = some { cls := .ref C, dict := some dx, data := .fields #[.ref t1, .none, .none, .none, .bool false, .none] }
  dbig : h.objs.size ≤ dx
  dne : dx ≠ x
  ns : h'.Ns1 dx (fun y => if y = par then some v else none)
variable {R : Result → Shared → Prop} {v : Value}
abbrev binds2 (par : Str) (x : Addr) (v : Value) : List (Str × Value) := [("self", .ref x), (par, v)]
abbrev mp2 (par : Str) (x : Addr) (v : Value) : Str → Option Value := fun y => (binds2 par x v).reverse.lookup y
theorem init_two {a0 a1 a2 a3 a4 b0 b1 b2 b3 : Pos} {ea : Expr} (T : XT P K C fI cda cc fnm qual ar [.Expr (.Call (.Attribute (.Call (.Name "super" a0) [] [] a1) "__init__" a2) [ea] [] a3) a4, .Assign [.Attribute (.Name "self" b0) par b1] (.Name par b2) b3] sc par)
    (G : Md K mg s.heap) (hx : s.heap.get? x = some (excO C t0)) (hnx : K.lookup x = none) (hng : x ≠ mainGlobals) (hnb : x ≠ builtinsNs) (hlim : s.heap.NoLimit) (hroom : A.depth < recursionLimit)
    (hself : sc.names.lookup ("self" : Str) = some .local) (hpar : sc.names.lookup par = some .local) (hks : sc.names.lookup ("super" : Str) = some .globalImplicit) (hkc : sc.names.lookup ("__class__" : Str) = some .free) (hk : sc.kind = .function)
    (hco : sc.isCoroutine = false) (hgen : sc.isGenerator = false) (hcell : ∀ y ∈ sc.names, y.2 ≠ .cell) (hps : par ≠ "self") (hpd : (par == ("__debug__" : Str)) = false)
    {ar0 : Arg} (hp : (ar.posonlyargs ++ ar.args).head? = some ar0) (har : ar0.arg = "self")
    (hbind : ∀ (s : Shared) (bo : List Stmt) (doc pm : Value) (an : Option Addr) (ct : Value), BindsTo s (ksFn fnm qual ar bo sc .none .none doc pm an (.ref cda) ct cc) ⟨[.ref x, v], []⟩ (binds2 par x v))
    (hev : ∀ (L : Addr) (A : Around) (E : Value → Shared → Prop) (s' : Shared) (Q' : Value → Shared → Prop), s'.heap.Ns L (mp2 par x v) → (∀ u k, Q' u { s' with toks := k }) → wpAny (model P w) A (eval ea (ksEnv qual sc L fI (.ref cda) cc)) Q' E s')
    (hst : ∀ L, starEach [ea] (ksEnv qual sc L fI (.ref cda) cc) = (false, eval ea (ksEnv qual sc L fI (.ref cda) cc)) :: starEach [] (ksEnv qual sc L fI (.ref cda) cc))
    (hin : ∀ L, interactive (ksEnv qual sc L fI (.ref cda) cc) = false)
    (hsw : ∀ L, swapsWith (.Name par b2) (some (.Attribute (.Name "self" b0) par b1)) b3.line (ksEnv qual sc L fI (.ref cda) cc) = pure false)
    {pl : Sem Bool} (he : ∀ L, eval (.Call (.Attribute (.Call (.Name "super" a0) [] [] a1) "__init__" a2) [ea] [] a3) (ksEnv qual sc L fI (.ref cda) cc) = (do
      let ov ← attributeBase (.Call (.Name "super" a0) [] [] a1) "__init__" (ksEnv qual sc L fI (.ref cda) cc) (eval (.Call (.Name "super" a0) [] [] a1) (ksEnv qual sc L fI (.ref cda) cc))
      standAt a2.atName
      let (f, first) ← holding [ov] (getMethod ov "__init__" pl)
      callWith a3 f first (backTo a3 (starEach [ea] (ksEnv qual sc L fI (.ref cda) cc))) []))
    (hq : ∀ h' tk dx t1, InitEnd K s.heap h' x C dx t1 par v → R (.ok (.ret .none)) { s with heap := h', toks := tk }) :
    codeAny (model P w) A (.call (.ref fI) ⟨[.ref x, v], []⟩) R s := by
  obtain ⟨oc, od, osl, doc, pm, an, ct, ho, hcd⟩ := T.fn
  obtain ⟨nm, q, N0, bs, bm, sn, sub, ab, col, dd, k0, k1, k2, k3, k5, hC, hbm⟩ := T.cls
  have hcl : clsIn K C = some { name := nm, bases := bs, mro := .ref C :: bm, ns := N0, qualname := q, hasDict := true, slotNames := sn, subclasses := sub, abstract := ab, collection := col, hasDel := false } := by unfold clsIn; rw [hC] <;> rfl
  have XH := G.kin
  refine ks_codeAny_call_defAt (binds := binds2 par x v) hroom (XH _ _ ho) rfl hlim (codeRec_of XH hcd) rfl (hbind _ _ _ _ _ _) hcell (fun y hy => ?_) (fun h₁ hn hk1 => ?_) hco hgen hk
  · rcases List.mem_cons.mp hy with rfl | hy
    · exact hself
    · rcases List.mem_cons.mp hy with rfl | hy
      · exact hpar
      · cases hy
  have hxl := Heap.lt_size hx
  have hb : ∀ b o, (hideAll s.heap [x]).get? b = some o → h₁.get? b = some o := fun b o e => hk1 b o (of_hideAll _ e)
  have F0 : Fr (hideAll s.heap [x]) s.heap.objs.size h₁ (mp2 par x v) := ⟨hn, hb, Nat.le_of_eq (hideAll_size _ _)⟩
  have hid : ∀ b o, s.heap.get? b = some o → b ≠ x → (hideAll s.heap [x]).get? b = some o := fun b o e n => hideAll_get _ e (by simpa using n)
  have kin' : K.In (hideAll s.heap [x]) := fun a o e => hid a o (XH a o e) fun z => by rw [z, hnx] at e; cases e
  have G0 : Md K mg (hideAll s.heap [x]) := by
    refine ⟨kin', ?_, ?_⟩
    · exact G.glob.at fun o e => hid _ o e (Ne.symm hng)
    · obtain ⟨mb, h1, h2⟩ := G.blt
      exact ⟨mb, h1.at fun o e => hid _ o e (Ne.symm hnb), h2⟩
  have N1 : News (hideAll s.heap [x]) s.heap.objs.size h₁ [(x, excObj C t0 none .none)] := fun p hp => by
    have e : p = (x, excObj C t0 none .none) := by simpa using hp
    subst e
    exact ⟨hk1 _ _ hx, Nat.ne_of_lt hxl, hideAll_none _ (List.mem_singleton.mpr rfl)⟩
  have hms : mp2 par x v "self" = some (.ref x) := by
    show List.lookup ("self" : Str) [(par, v), ("self", Value.ref x)] = some (.ref x)
    have : (("self" : Str) == par) = false := by simpa using Ne.symm hps
    simp [List.lookup, this]
  have hmp : mp2 par x v par = some v := by
    show List.lookup par [(par, v), ("self", Value.ref x)] = some v
    simp [List.lookup]
  refine ks_wpAt_execs_cons ?_
  refine sup_step (s := { s with heap := h₁, toks := _ }) T G0 F0 N1 hp (by rw [har]; exact hms) hks hkc (by rw [har]; exact hself) hk (fun s' Q' hn' hq' => hev _ _ _ s' Q' hn' hq') (fun t' h2 k F2 N2 => ?_) (hst _) (hin _) (he _)
  refine ks_wpAt_execs_cons (ks_wpAt_Assign_Attr ?_ (hsw _))
  have X2 : K.In h2 := G0.kin.keeps F2.keep
  have hx2 := (N2 _ (.head _)).1
  refine wpAt_of_wpAny (ESX.ldL (s := { s with heap := h2, toks := k }) (env := ksEnv qual sc s.heap.objs.size fI (.ref cda) cc) F2.ns hmp ?_ hk hpar hpd)
  refine ESX.ldL (s := { s with heap := h2, toks := k }) (env := ksEnv qual sc s.heap.objs.size fI (.ref cda) cc) F2.ns hms ?_ hk hself rfl
  refine set_plain X2 (ox := excO C t') (od := none) ⟨hx2, rfl, rfl, trivial⟩ T.sa ?_
  refine PySem.HandSPX.exc_osa X2 hx2 hcl (show refsVE (.ref C :: bm) = true from hbm) rfl T.noN (fun h₃ tk₃ dx k₃ dn dne hx₃ hn₃ => ?_)
  refine wpAt_of_wpAny (wpAny_execs_nil (hq h₃ tk₃ dx t' ⟨fun b o hb' e => k₃ b o hb' (F2.keep b o (hid b o e hb')), hx₃, ?_, dne, hn₃⟩))
  exact Nat.le_of_lt (Nat.lt_of_lt_of_le F2.ns.lt dn)
end
end DX
namespace DX
open PySem PySem.Spec PySem.W PySem.Calls PyProof.Rows PySem.HandSPX
structure XCl (K : Frag) (C fI : Addr) : Prop where
  cls : ∃ nm q N bs bm sn sub ab col dd k0 k1 k2 k3 k5, K.lookup C = some (excClassObj nm q C N bs bm true sn sub ab col dd k0 k1 k2 k3 k5 "ValueError.__new__") ∧ refsVE bm = true
  iC : findIn K (.ref C) "__init__" = some (some (.ref fI))
  tC : typeIn K (.ref fI) = some (.type "function")
  kC : keepIn K (.ref C) = true
  exC : subIn K (.ref C) (.type "BaseException") = some true
  tyC : typeIn K (.ref C) = some (.type "type")
theorem XT.cl {P : Program} {K : Frag} {C fI cda cc : Addr} {fnm qual par : Str} {ar : Arguments} {bo : List Stmt} {sc : Scope} (T : XT P K C fI cda cc fnm qual ar bo sc par) : XCl K C fI := ⟨T.cls, T.iC, T.tC, T.kC, T.exC, T.tyC⟩
structure X2 (P : Program) (w : World) (K : Frag) (mg : Str → Option Value) (C : Addr) (par : Str) (ok : L2.V → Prop) where
  fI : Addr
  cl : XCl K C fI
  run : ∀ (A : Around) (R : Result → Shared → Prop) (s : Shared) (x t0 : Addr) (v : L2.V) (u : Value), Md K mg s.heap → s.heap.get? x = some (excO C t0) → K.lookup x = none → x ≠ mainGlobals → x ≠ builtinsNs → s.heap.NoLimit → A.depth < recursionLimit → L2.RelV v u → ok v →
    (∀ h' tk dx t1, InitEnd K s.heap h' x C dx t1 par u → R (.ok (.ret .none)) { s with heap := h', toks := tk }) → codeAny (model P w) A (.call (.ref fI) ⟨[.ref x, u], []⟩) R s
end DX
namespace DL
open PySem L2 PySem.Spec PyProof.Rows
theorem relO_one {par : Str} {v : V} {u : Value} (r : RelV v u) (f : Str) : RelO (List.lookup f [(par, v)]) (if f = par then some u else none) := by
  by_cases hw : f = par
  · subst hw
    have q : List.lookup f [(f, v)] = some v := by simp [List.lookup]
    rw [q, if_pos rfl]
    exact r
  · have qw : (f == par) = false := by simpa using hw
    have q : List.lookup f [(par, v)] = none := by simp [List.lookup, qw]
    rw [q, if_neg hw]
    trivial
section
variable {X : Cx} {C : Addr} {par x : Str} {ok : V → Prop}
def tMk2 (C : Addr) (par : Str) (ok : V → Prop) (ta : TA) : L2.St → Hp → XK → Prop := fun σ H Q => ta σ H fun vs H1 => ∃ v, vs = [v] ∧ ok v ∧ ∀ d, H1 d = none → Q (.ref C) (some d) (upd H1 d (.xd [(par, v)]))
theorem md_of {pins : List (Addr × Obj)} {σ : L2.St} {H : Hp} {s : Shared} (I : Inv X pins σ H s) : DX.Md X.K X.mg s.heap := by
  obtain ⟨mb, h1, h2⟩ := I.mod.blt
  exact ⟨I.kIn, I.mod.glob.keeps I.bk, mb, h1.keeps I.bk, h2⟩
theorem knone {K : PySem.W.Frag} {h : Heap} (X : K.In h) {a : Addr} (hl : h.objs.size ≤ a) : K.lookup a = none := by
  cases e : K.lookup a with
  | none => rfl
  | some o => exact absurd (Nat.lt_of_lt_of_le (Heap.lt_size (X _ _ e)) hl) (Nat.lt_irrefl _)
theorem md_keeps {K : PySem.W.Frag} {mg : Str → Option Value} {h h' : Heap} (M : DX.Md K mg h) (k : ∀ b o, h.get? b = some o → h'.get? b = some o) : DX.Md K mg h' := by
  obtain ⟨mb, h1, h2⟩ := M.blt
  exact ⟨M.kin.keeps k, M.glob.keeps k, mb, h1.keeps k, h2⟩
theorem md_ne {K : PySem.W.Frag} {mg : Str → Option Value} {h : Heap} (M : DX.Md K mg h) {a : Addr} (hl : h.objs.size ≤ a) : a ≠ mainGlobals ∧ a ≠ builtinsNs := by
  obtain ⟨mb, h1, h2⟩ := M.blt
  exact ⟨fun z => absurd (Nat.lt_of_lt_of_le M.glob.lt (by rw [← z]; exact hl)) (Nat.lt_irrefl _), fun z => absurd (Nat.lt_of_lt_of_le h1.lt (by rw [← z]; exact hl)) (Nat.lt_irrefl _)⟩
theorem pmk_2 {a : Expr} {ta : TA} {p pos : Pos} {k : Nat} (T : DX.X2 X.prog X.w X.K X.mg C par ok) (gC : X.mg x = some (.ref C)) (hr : Room (k + 1) X.A) (ha : PA X [a] ta) (hg : Gl X x := by rfl) (hdb : (x == ("__debug__" : Str)) = false := by decide)
    (he : starEach (a :: []) X.env = (false, eval a X.env) :: starEach [] X.env := by rfl) (hpl : (backTo pos (starEach [] X.env)).any (·.1) = false := by rfl) :
    PMk X (.Call (.Name x p) [a] [] pos) (tMk2 C par ok ta) := by
  intro pins s σ H Q I h
  obtain ⟨nm, q, N0, bs, bm, sn, sub, ab, col, dd, k0, k1, k2, k3, k5, hC, hbm⟩ := T.cl.cls
  refine wpAny_Call_Name_kw (ld_glob I hg gC ?_ hdb)
  refine PySem.W.callWith_K (h₀ := X.base) I.ok.mod.kin T.cl.kC (thn (ha.run pos pins s σ H _ I h) fun us s1 hh => ?_) he hpl
  obtain ⟨vs, H1, I1, r1, v, ev, hv, q1⟩ := hh
  subst ev
  refine ⟨I1.kIn, ?_⟩
  cases r1 with
  | cons rv rn =>
    rename_i u us'
    cases rn
    show wpAny _ _ (call (.ref C) [u]) _ _ _
    have hlim := I1.nolimit
    have M1 := md_of I1
    obtain ⟨hp, g, dr, tk, os⟩ := s1
    have kk : ∀ b o, hp.get? b = some o → ((hp.push (PySem.W.kdv_tup [u])).push (PySem.HandSPX.excO C hp.objs.size)).get? b = some o := fun b o e => Heap.get?_push_of_some _ (Heap.get?_push_of_some _ e)
    have hget : ((hp.push (PySem.W.kdv_tup [u])).push (PySem.HandSPX.excO C hp.objs.size)).get? (hp.objs.size + 1) = some (PySem.HandSPX.excO C hp.objs.size) := by heap_get
    obtain ⟨n1, n2⟩ := md_ne M1 (a := hp.objs.size + 1) (Nat.le_succ _)
    refine wpAny_call (PySem.HandSPX.call_own F.excBase_ValueError (fun Y => PySem.HandSPX.refsVE_contains Y bm hbm) (I1.kIn _ _ hC) (PySem.W.looks_findIn I1.kIn T.cl.iC) (fun self => PySem.W.bind_fn I1.kIn self T.cl.tC) (by rw [sizeLine_eq]; exact (by decide : 1 ≤ 16777216))
      (T.run _ _ ⟨(hp.push (PySem.W.kdv_tup [u])).push (PySem.HandSPX.excO C hp.objs.size), g, dr, tk, os⟩ (hp.objs.size + 1) hp.objs.size v u (md_keeps M1 kk) hget (knone I1.kIn (Nat.le_succ _)) n1 n2 (hlim.keeps kk) (by have := hr.dp; show X.A.depth + 1 < recursionLimit; omega) rv hv fun h' tk' d t1 M => ?_))
    refine ⟨rfl, ?_⟩
    show MkP X pins σ Q (.ref (hp.objs.size + 1)) ⟨h', g, dr, tk', os⟩
    generalize hee : hp.objs.size + 1 = e at M hget n1 n2
    have enew : hp.objs.size ≤ e := by rw [← hee]; exact Nat.le_succ _
    have dbig : hp.objs.size ≤ d := by
      have := M.dbig
      refine Nat.le_trans ?_ this
      show hp.objs.size ≤ ((hp.push (PySem.W.kdv_tup [u])).push (PySem.HandSPX.excO C hp.objs.size)).objs.size
      rw [Heap.size_push, Heap.size_push]
      omega
    have old : ∀ b o, hp.get? b = some o → h'.get? b = some o := fun b o q => M.keep b o (Nat.ne_of_lt (Nat.lt_of_lt_of_le (Heap.lt_size q) enew)) (kk b o q)
    have hns := M.ns
    obtain ⟨G', g1, g2⟩ := restrict h' fun b => decide (b ≠ e)
    have gk : ∀ b, b ≠ e → G'.get? b = h'.get? b := fun b hb => g1 b (decide_eq_true hb)
    have ge : G'.get? e = none := g2 e (by simp)
    have oldG : ∀ b o, hp.get? b = some o → G'.get? b = some o := fun b o q => (gk b (Nat.ne_of_lt (Nat.lt_of_lt_of_le (Heap.lt_size q) enew))).trans (old b o q)
    have ob : ObjOk X.prog X.w (upd H1 d (.xd [(par, v)])) G' d (.xd [(par, v)]) := ⟨_, hns.at (fun o q => (gk d M.dne).trans q), fun f => relO_one rv f⟩
    have J : Inv X pins σ (upd H1 d (.xd [(par, v)])) ⟨G', g, dr, tk', os⟩ := I1.laid (t' := tk') oldG dbig ob
    refine ⟨e, _, _, ⟨G', g, dr, tk', os⟩, _, .ref C, some d, rfl, J, fun b o q => ?_, ge, M.obj, ⟨rfl, rfl⟩, rfl, rfl, ?_, rfl, I1.bare, raises_own T.cl.exC T.cl.tyC, q1 d (I1.hok.fresh dbig)⟩
    · by_cases hb : b = e
      · have q' : G'.get? b = some o := q
        rw [hb, ge] at q'; cases q'
      · exact (gk b hb).symm.trans q
    · rw [upd_ne (Ne.symm M.dne)]
      exact I1.hok.fresh enew
end
end DL
namespace DL
open PySem L2
def vRaise2 (c : Nat) (par : Str) (okd : D → Bool) (ev : DEnv → Rs D) (de : DEnv) : Ot := (ev de).out fun d de1 => if okd d = true then .ex c [(par, d)] de1 else .bad
def isStr : D → Bool
  | .str s => decide (s.length ≤ 1000000)
  | _ => false
def okStr : V → Prop := fun v => ∃ s : Str, v = .str s ∧ s.length ≤ 1000000
theorem ok_str {K : PySem.W.Frag} {kap : Kp} (F : Hp) (v : V) (d : D) (r : Rep K kap F v d) (h : isStr d = true) : okStr v := by
  cases r with
  | str s => exact ⟨s, rfl, of_decide_eq_true h⟩
  | _ => cases h
section
variable {kap : Kp} {xi : Xi} {X : Cx} {W : WX} {e : Expr} {t : WX → TE} {ev : DEnv → Rs D} {pos p pos2 : Pos} {k : Nat} {x par : Str} {ok : V → Prop} {okd : D → Bool} {C : Addr}
theorem jRaise2 (c : Nat) (hkc : kap c = C) (T : DX.X2 X.prog X.w X.K X.mg C par ok) (hok : ∀ F v d, Rep X.K kap F v d → okd d = true → ok v) (gC : X.mg x = some (.ref C)) (hr : RoomG (k + 1) X.A) (tk : Takes X W) (h : JE kap xi X W e t ev) (hc : X.calm = true := by rfl) (hg : Gl X x := by rfl) (hdb : (x == ("__debug__" : Str)) = false := by decide)
    (he : starEach (e :: []) X.env = (false, eval e X.env) :: starEach [] X.env := by rfl) (hpl : (backTo pos (starEach [] X.env)).any (·.1) = false := by rfl) :
    JS kap xi X W (.Raise (some (.Call (.Name x p) [e] [] pos)) none pos2) (fun W _ σ H => tMk2 C par ok (tCons (t W) tNil) σ H fun cls d H' => W cls d σ H') (vRaise2 c par okd ev) := ⟨ps_raise hc tk (pmk_2 T gC hr.r (pa_cons h.p pa_nil he) hg hdb he hpl), by
  subst hkc
  intro W F H sg de O Dn R hp
  refine h.s.out R hp fun v d F1 H1 de1 O1 R1 g1 r _ hp => ?_
  split at hp
  · rename_i ho
    refine ⟨v, rfl, hok F1 v d r ho, fun dd hd => ?_⟩
    obtain ⟨n, s2⟩ := New.one (o := .xd [(par, v)]) R1.sub hd
    exact hp (upd F1 dd (.xd [(par, v)])) (upd H1 dd (.xd [(par, v)])) sg O1 (some dd) (R1.new n s2) n.go ⟨_, upd_same, rfl, .cons (r.mono n.f) .nil⟩
  · exact hp.elim⟩
end
end DL
namespace DL
open PySem L2
def vSetFld (i : Nat) (cl : List Nat) (f : Str) (ev : DEnv → Rs D) (de : DEnv) : Ot :=
  (ev de).out fun d de1 => match slotOw i de1 with
    | some (s, .obj c fs) => if cl.contains c = true ∧ fs.length < 1000 then .nx (de1.set i (s.same (.obj c (putD f d fs)))) else .bad
    | _ => .bad
section
variable {kap : Kp} {xi : Xi} {X : Cx} {W : WX} {e : Expr} {t : WX → TE} {ev : DEnv → Rs D} {pos pos' np : Pos} {x f : Str}
theorem jSetFld (i : Nat) (cl : List Nat) (hcl : ∀ c ∈ cl, Cls X.K (kap c) ∧ NoAttr X.K (kap c) f) (h : JE kap xi X W e t ev) (hN : X.N[i]? = some x := by rfl) (hv : Vis X.env.scope x := by first | exact Or.inl rfl | exact Or.inr (Or.inl rfl) | exact Or.inr (Or.inr rfl)) (hd : (x == ("__debug__" : Str)) = false := by decide)
    (hcd : (x == ("__classdict__" : Str)) = false := by decide) (hs : swapsWith e (some (.Attribute (.Name x np) f pos')) pos.line X.env = pure false := by rfl) :
    JS kap xi X W (.Assign [.Attribute (.Name x np) f pos'] e pos) (fun W => sFld X.K (tVar i) (t W) f) (vSetFld i cl f ev) := ⟨ps_fld (pe_var hN hv hd hcd) h.p hs, by
  intro W F H sg de O Dn R hp
  refine h.s.out R hp fun v d F1 H1 de1 O1 R1 g1 r _ hp => ?_
  split at hp
  · rename_i s c fs eo
    split at hp
    · rename_i hh
      obtain ⟨e1, e2, p, h1, h2, h3, dx, vs, h4, h5, h6⟩ := R1.owl eo
      obtain ⟨k1, k2⟩ := hcl c (List.contains_iff_mem.mp hh.1)
      have hl : vs.length < 1000 := by
        have := congrArg List.length h5
        rw [List.length_map, List.length_map] at this
        rw [this]
        exact hh.2
      refine ⟨_, h2, p, _, dx, vs, rfl, h4, k1, k2, hl, ?_⟩
      obtain ⟨R3, g3⟩ := R1.mut (o := .ins (kap c) dx (putF f v vs)) (d' := .obj c (putD f d fs)) e1 e2 h1 ⟨dx, _, upd_same, put_names f v d h5, put_reps r h5 h6⟩
      exact hp F1 _ sg O1 R3 g3
    · exact hp.elim
  · exact hp.elim⟩
end
end DL
namespace DL
open PySem L2
def fSlA : D → Option Int → Option Int → Option D
  | .tup xs, lo, hi => some (.tup (cutD xs lo hi))
  | .lst xs, lo, hi => some (.lst (cutD xs lo hi))
  | .scr xs, lo, hi => some (.lst (cutD xs lo hi))
  | _, _, _ => none
section
variable {kap : Kp} {xi : Xi} {X : Cx} {W : WX} {e : Expr} {t : WX → TE} {o : Op} {pos p2 : Pos} {lo hi : Option Expr} {tl th : WX → TO} {e1 e2 : DEnv → Rs (Option Int)}
theorem jSlA (h : JO kap xi X W e t o) (hl : JP kap xi X W lo tl e1) (hu : JP kap xi X W hi th e2) : JE kap xi X W (.Subscript e (.Slice lo hi none p2) pos) (fun W => tSl (fun x lo hi H Q => rSlA X.K x lo hi H Q ∨ rSlL X.K x lo hi H Q) (t W) (tl W) (th W)) (vSl fSlA o e1 e2) := ⟨pe_slice (sl_tupA.or sl_list) h.p hl.p hu.p, by
  intro W F H sg de O Q R hp
  refine h.s.bind R hp fun x fa F1 H1 de1 O1 R1 g1 ra _ hp => ?_
  refine hl.s.bind R1 hp fun l l' F2 H2 de2 O2 R2 g2 rl _ hp => ?_
  cases (show l = l' from rl)
  refine hu.s.bind R2 hp fun u u' F3 H3 de3 O3 R3 g3 ru _ hp => ?_
  cases (show u = u' from ru)
  obtain ⟨z, e, hp⟩ := ofO_some hp
  obtain ⟨d, e1, e⟩ := bind_some e
  have rd := ra xi F3 H3 de3 O3 R3 (g2.ex.trans g3.ex) d e1
  have fin : ∀ {vs : List V} {ds : List D}, Reps X.K kap F3 vs ds → z = .lst (cutD ds l u) → ∀ q, H3 q = none → Q (.ref q) (upd H3 q (.lst (cutV vs l u))) := fun {vs ds} r1 ez q hq => by
    obtain ⟨n, s2⟩ := New.one (o := .lst (cutV vs l u)) R3.sub hq
    subst ez
    exact hp.done R3 n s2 (.lst upd_same ((r1.cut l u).mono n.f))
  unfold fSlA at e
  split at e
  · cases e
    obtain ⟨p, vs, rfl, h1, r1⟩ := rd.tup
    refine .inl ⟨p, vs, rfl, sqT_mono R3.sub h1, fun hw => ?_, fun hw q hq => ?_⟩
    · rw [r1.length] at hw
      rw [cut_whole _ _ _ hw] at hp
      exact hp.done R3 New.refl R3.sub (.tup h1 r1)
    · obtain ⟨n, s2⟩ := New.one (o := .tup (cutV vs l u)) R3.sub hq
      exact hp.done R3 n s2 (.tup (SqT.of upd_same) ((r1.cut l u).mono n.f))
  · cases e
    obtain ⟨p, vs, rfl, h1, r1⟩ := rd.lst R3.sub
    exact .inr ⟨p, vs, rfl, SqL.of h1, fin r1 rfl⟩
  · cases e
    obtain ⟨p, vs, rfl, h1, r1⟩ := rd.scr
    exact .inr ⟨p, vs, rfl, sqL_mono R3.sub h1, fin r1 rfl⟩
  · cases e⟩
end
open PySem.Spec PyProof.Rows in
theorem FunD.dl {P : Program} {w : World} {K : PySem.W.Frag} {mg : Str → Option Value} {base : Heap} {kap : Kp} {x qual : Str} {st : Stmt} {f : Addr} {fd : FuncData} {N ps : List Str} {k : Nat} {n nl : Nat} {mu : Option Nat} {e : DEnv → Ot} {dvs : List V} {kws : List (Str × V)}
    (F : FunD K x qual (defArgs st) (defBody st) (defScope st) dvs kws f fd) (S : FnScope N ps (defScope st)) (hn : ps.length = n) (hN : N.length = n + nl)
    (hbody : ∀ (cdv : Value) (A : Around) (outer : List Env) (s : Shared) (H : Hp) (E : XK), RoomG k (A.deeper (envC qual (defScope st) s.heap.objs.size f cdv)) →
      Takes (cxOf (L2.CX P w) P w K mg base N qual (defScope st) f cdv A outer s H E) (fun cls d _ H => E cls d H) →
      PassesOwn (model P w) (cxOf (L2.CX P w) P w K mg base N qual (defScope st) f cdv A outer s H E).A (cxOf (L2.CX P w) P w K mg base N qual (defScope st) f cdv A outer s H E).env (cxOf (L2.CX P w) P w K mg base N qual (defScope st) f cdv A outer s H E).xe →
      ∃ t, JSs kap none (cxOf (L2.CX P w) P w K mg base N qual (defScope st) f cdv A outer s H E) (fun cls d _ H => E cls d H) (defBody st) t e) :
    FnG P w K mg base (L2.CX P w) (k + 1) f fd ps (spD K kap n mu (run mu nl e)) := by
  obtain ⟨oc, od, dV, kV, doc, pm, an, cdv, ct, osl, rfl, lk, hcd, _, _⟩ := F.ex
  refine fnG_of lk hcd S (fun vs H Q E h => ?_) fun A outer s H vs Q E hr h => ?_
  · obtain ⟨F, ds, P, hd, _, A, _⟩ := h
    rw [A.len, hd, hn]
  · obtain ⟨t, J⟩ := hbody cdv A outer s H E hr (takes_of rfl rfl rfl rfl) (passes_of rfl)
    exact ⟨_, J.p, run_snd hN J.s h⟩
def kapL (l : List Addr) : Kp := ⟨fun n => l.getD n 0, fun _ => none, []⟩
structure GF (P : Program) (w : World) (K : PySem.W.Frag) (mg : Str → Option Value) (base : Heap) (kap : Kp) (x : Str) (k n : Nat) (mu : Option Nat) (m : List D → Fo) (dcs : List D) where
  g : DG P w K mg base kap k n mu m dcs
  hm : mg x = some (.ref g.f)
def DG.all {P : Program} {w : World} {K : PySem.W.Frag} {mg : Str → Option Value} {base : Heap} {kap : Kp} {k n : Nat} {mu : Option Nat} {m : List D → Fo} {f : Addr} {fd : FuncData} {ps : List Str}
    (ok : FnG P w K mg base (L2.CX P w) k f fd ps (spD K kap n mu m)) (kp : PySem.W.keepIn K (.ref f) = true) (bi : Binds K fd ps []) : DG P w K mg base kap k n mu m [] :=
  ⟨f, fd, ps, [], [], ok, kp, bi, .nil, fun _ => .nil⟩
structure GM (P : Program) (w : World) (K : PySem.W.Frag) (mg : Str → Option Value) (base : Heap) (kap : Kp) (x : Str) (c k n : Nat) (m : List D → Fo) (dcs : List D) where
  C : Addr
  hk : kap c = C
  g : DG P w K mg base kap k n (some 0) m dcs
  im : Mk K C g.f
  hm : mg x = some (.ref C)
structure GX2 (P : Program) (w : World) (K : PySem.W.Frag) (mg : Str → Option Value) (kap : Kp) (x : Str) (c : Nat) (par : Str) (ok : V → Prop) where
  C : Addr
  hk : kap c = C
  g : DX.X2 P w K mg C par ok
  hm : mg x = some (.ref C)
theorem cx_end {P : Program} {w : World} (H : Hp) (s : Shared) (e : Value) (s' : Shared) (h : L2.CX P w [] H s (fun _ _ _ => False) e s') : False := by
  obtain ⟨_, _, _, _, _, _, _, _, _, _, _, _, z⟩ := h
  exact z.elim
end DL
namespace DX
open PySem PySem.Spec PySem.W PySem.Calls PyProof.Rows PySem.HandSPX
section
variable {P : Program} {w : World} {K : Frag} {mg : Str → Option Value} {C fI cda cc : Addr} {fnm qual par : Str} {ar : Arguments} {sc : Scope}
def x2_cat {a0 a1 a2 a3 a4 a5 a6 a7 b0 b1 b2 b3 : Pos} {j : Nat} {pre : Str} (T : XT P K C fI cda cc fnm qual ar [.Expr (.Call (.Attribute (.Call (.Name "super" a0) [] [] a1) "__init__" a2) [.BinOp (.Constant (.str pre) j a5) .Add (.Name par a6) a7] [] a3) a4, .Assign [.Attribute (.Name "self" b0) par b1] (.Name par b2) b3] sc par)
    (hpre : pre.length ≤ 1000) (hself : sc.names.lookup ("self" : Str) = some .local) (hpar : sc.names.lookup par = some .local) (hks : sc.names.lookup ("super" : Str) = some .globalImplicit) (hkc : sc.names.lookup ("__class__" : Str) = some .free) (hk : sc.kind = .function)
    (hco : sc.isCoroutine = false) (hgen : sc.isGenerator = false) (hcell : ∀ y ∈ sc.names, y.2 ≠ .cell) (hps : par ≠ "self") (hpd : (par == ("__debug__" : Str)) = false)
    {ar0 : Arg} (hp : (ar.posonlyargs ++ ar.args).head? = some ar0) (har : ar0.arg = "self")
    (hbind : ∀ (s : Shared) (x : Addr) (v : Value) (bo : List Stmt) (doc pm : Value) (an : Option Addr) (ct : Value), BindsTo s (ksFn fnm qual ar bo sc .none .none doc pm an (.ref cda) ct cc) ⟨[.ref x, v], []⟩ (binds2 par x v))
    (hst : ∀ L, starEach [.BinOp (.Constant (.str pre) j a5) .Add (.Name par a6) a7] (ksEnv qual sc L fI (.ref cda) cc) = (false, eval (.BinOp (.Constant (.str pre) j a5) .Add (.Name par a6) a7) (ksEnv qual sc L fI (.ref cda) cc)) :: starEach [] (ksEnv qual sc L fI (.ref cda) cc))
    (hin : ∀ L, interactive (ksEnv qual sc L fI (.ref cda) cc) = false)
    (hsw : ∀ L, swapsWith (.Name par b2) (some (.Attribute (.Name "self" b0) par b1)) b3.line (ksEnv qual sc L fI (.ref cda) cc) = pure false)
    {pl : Sem Bool} (he : ∀ L, eval (.Call (.Attribute (.Call (.Name "super" a0) [] [] a1) "__init__" a2) [.BinOp (.Constant (.str pre) j a5) .Add (.Name par a6) a7] [] a3) (ksEnv qual sc L fI (.ref cda) cc) = (do
      let ov ← attributeBase (.Call (.Name "super" a0) [] [] a1) "__init__" (ksEnv qual sc L fI (.ref cda) cc) (eval (.Call (.Name "super" a0) [] [] a1) (ksEnv qual sc L fI (.ref cda) cc))
      standAt a2.atName
      let (f, first) ← holding [ov] (getMethod ov "__init__" pl)
      callWith a3 f first (backTo a3 (starEach [.BinOp (.Constant (.str pre) j a5) .Add (.Name par a6) a7] (ksEnv qual sc L fI (.ref cda) cc))) [])) : X2 P w K mg C par DL.okStr where
  fI := fI
  cl := T.cl
  run := fun A R s x t0 v u M hx hnx hng hnb hlim hroom rv ok hq => by
    obtain ⟨y, rfl, hy⟩ := ok
    obtain ⟨t, rfl⟩ := (show ∃ t, u = Value.str y t from rv)
    refine init_two T M hx hnx hng hnb hlim hroom hself hpar hks hkc hk hco hgen hcell hps hpd hp har (fun s => hbind s x _) (fun L A E s' Q' hn hq' => ?_) hst hin hsw he hq
    refine wpAny_BinOp (Calls.Constant_str ?_)
    have hmp : mp2 par x (.str y t) par = some (.str y t) := by
      show List.lookup par [(par, Value.str y t), ("self", Value.ref x)] = some (.str y t)
      simp [List.lookup]
    refine ESX.ldL (s := { s' with toks := s'.toks + 1 }) (env := ksEnv qual sc L fI (.ref cda) cc) hn hmp ?_ hk hpar hpd
    exact PySem.SB.add (fun t' k => hq' _ _) (by rw [sizeLine_eq]; omega)
end
end DX
namespace DL
open PySem L2
theorem none_in {α : Type} {p : α → Prop} : ∀ c ∈ ([] : List α), p c := fun _ h => nomatch h
theorem more_in {α : Type} {p : α → Prop} {a : α} {l : List α} (h : p a) (r : ∀ c ∈ l, p c) : ∀ c ∈ a :: l, p c := fun c hc => by
  rcases List.mem_cons.mp hc with e | e
  · rw [e]; exact h
  · exact r c e
theorem uu {k : Nat} {A : Around} (r : RoomG k A) : A.units + 64 < cLine := by have := r.un; omega
open PyProof.Rows
theorem bt_len : bootBuiltins ("len" : Str) = some (.builtin "len") := by decide +kernel
theorem bt_abs : bootBuiltins ("abs" : Str) = some (.builtin "abs") := by decide +kernel
theorem bt_isinstance : bootBuiltins ("isinstance" : Str) = some (.builtin "isinstance") := by decide +kernel
theorem bt_int : bootBuiltins ("int" : Str) = some (.type "int") := by decide +kernel
theorem bt_str : bootBuiltins ("str" : Str) = some (.type "str") := by decide +kernel
theorem bt_bool : bootBuiltins ("bool" : Str) = some (.type "bool") := by decide +kernel
end DL
namespace DL
open PySem L2
section
variable {kap : Kp} {xi : Xi} {X : Cx} {W : WX} {e : Expr} {es : List Expr} {kws : List Keyword} {t : WX → TE} {ta tk : WX → TA} {ev : DEnv → Rs D} {ea : DEnv → Rs (List CA)} {eb ek : DEnv → Rs (List D)} {pos p pos2 : Pos} {k n j : Nat} {x par : Str} {mu : Option Nat} {md : List D → Fo} {dcs : List D} {ks : List Str} {ok : V → Prop} {okd : D → Bool}
theorem gCall (g : GF X.prog X.w X.K X.mg X.base kap x k n mu md dcs) (hr : RoomG k X.A) (tk : Takes X W) (ha : JC kap xi X W (e :: es) ta ea) (hg : Gl X x := by rfl) (hdb : (x == ("__debug__" : Str)) = false := by decide)
    (he : starEach (e :: es) X.env = (false, eval e X.env) :: starEach es X.env := by rfl) (hpl : (backTo pos (starEach es X.env)).any (·.1) = false := by rfl) :
    JE kap xi X W (.Call (.Name x p) (e :: es) [] pos) (fun W => tCallSD (spD X.K kap n mu md) g.g.dvs (WE W) (ta W)) (wCall n mu md dcs ea) := jCall g.g g.hm hr tk ha hg hdb he hpl
theorem gCallF (g : GF X.prog X.w X.K X.mg X.base kap x k n mu md dcs) (hr : RoomG k X.A) (tk : Takes X W) (ha : JC kap xi X W (e :: es) ta ea) (hg : Gl X x := by rfl) (hdb : (x == ("__debug__" : Str)) = false := by decide)
    (he : starEach (e :: es) X.env = (false, eval e X.env) :: starEach es X.env := by rfl) (hpl : (backTo pos (starEach es X.env)).any (·.1) = false := by rfl) :
    JF kap xi X W (.Call (.Name x p) (e :: es) [] pos) (fun W => tCallSD (spD X.K kap n mu md) g.g.dvs (WE W) (ta W)) (wCallF n mu md dcs ea) := jCallF g.g g.hm hr tk ha hg hdb he hpl
theorem gMake {c : Nat} (g : GM X.prog X.w X.K X.mg X.base kap x c k n md dcs) (hr : RoomG (k + 1) X.A) (tkx : Takes X W) (ha : JA kap xi X W (e :: es) ta eb) (hg : Gl X x := by rfl) (hdb : (x == ("__debug__" : Str)) = false := by decide)
    (he : starEach (e :: es) X.env = (false, eval e X.env) :: starEach es X.env := by rfl) (hpl : (backTo pos (starEach es X.env)).any (·.1) = false := by rfl) :
    JF kap xi X W (.Call (.Name x p) (e :: es) [] pos) (fun W => tMakeSD g.C (spD X.K kap n (some 0) md) g.g.dvs (WE W) (ta W)) (wMake c n md dcs eb) := jMake c g.hk g.g g.im g.hm hr tkx ha hg hdb he hpl
theorem gRaise2 {c : Nat} (g : GX2 X.prog X.w X.K X.mg kap x c par ok) (hok : ∀ F v d, Rep X.K kap F v d → okd d = true → ok v) (hr : RoomG 1 X.A) (tk : Takes X W) (h : JE kap xi X W e t ev) (hc : X.calm = true := by rfl) (hg : Gl X x := by rfl) (hdb : (x == ("__debug__" : Str)) = false := by decide)
    (he : starEach (e :: []) X.env = (false, eval e X.env) :: starEach [] X.env := by rfl) (hpl : (backTo pos (starEach [] X.env)).any (·.1) = false := by rfl) :
    JS kap xi X W (.Raise (some (.Call (.Name x p) [e] [] pos)) none pos2) (fun W _ σ H => tMk2 g.C par ok (tCons (t W) tNil) σ H fun cls d H' => W cls d σ H') (vRaise2 c par okd ev) := jRaise2 c g.hk g.g hok g.hm hr tk h hc hg hdb he hpl
end
end DL
namespace DL
open PySem L2
end DL
namespace DL
open PySem L2
def spLaw (n : Nat) (K : PySem.W.Frag) : Sp := fun vs H Q _ => ∃ (a : Addr) (ns : List Int), vs = [.ref a] ∧ SqL K H a (ns.map V.int) ∧ ns.length ≤ n ∧ TabsL [] H ∧ ∀ H', Q (.bl true) H'
theorem law_imp {K : PySem.W.Frag} {kap : Kp} {m : List D → Fo} {n : Nat} (h : ∀ ns : List Int, ns.length ≤ n → ∃ q, m [.scr (ns.map .int)] = .ret (.bl true) q) (ht : kap.tab = []) (vs : List V) (H : Hp) (Q : VK) (E : XK) (hs : spLaw n K vs H Q E) : spD K kap 1 none m vs H Q E := by
  obtain ⟨a, ns, rfl, hS, hl, hT, hq⟩ := hs
  obtain ⟨q, e⟩ := h ns hl
  refine ⟨nT H, [.scr (ns.map .int)], none, rfl, ⟨nT_sub H, nT_nt H, by rw [ht]; exact hT⟩, ⟨rfl, fun i d hi _ => ?_, fun k d z => (by cases z), fun z => absurd rfl z⟩, ?_⟩
  · cases i with
    | zero =>
      simp at hi
      subst hi
      exact ⟨_, rfl, .scr (sqL_monoT (nT_same H) hS) (Reps.ints ns)⟩
    | succ i => simp at hi
  · rw [e]
    intro v F' H' _ r
    cases r
    exact hq H'
theorem tabs_only {H : Hp} (h : Only H) : TabsL [] H where
  tabs := fun _ z => nomatch z
  code := fun a o c q e _ => by
    rcases h a with z | ⟨ob, xs, z⟩
    · rw [z] at e; cases e
    · rw [z] at e; unfold ObjX at e; cases e
  only := fun a ps e => by
    rcases h a with z | ⟨ob, xs, z⟩
    · rw [z] at e; cases e
    · rw [z] at e; cases e
end DL
namespace DL
open PySem L2
def wipeD (de : DEnv) : List Nat → DEnv
  | [] => de
  | v :: vs => (wipeD de vs).set v .no
open PySem.Spec PyProof.Rows
end DL
namespace DL
open PySem L2
end DL
namespace DL
open PySem L2
def fGcd : List D → Option D
  | [.int a, .int b] => some (.int ((Nat.gcd a.natAbs b.natAbs : Nat) : Int))
  | _ => none
theorem sp_gcd {K : PySem.W.Frag} {kap : Kp} : SPN K kap rGcd fGcd := by
  intro F H xs as z Q sub nt ra e q
  unfold fGcd at e
  split at e
  · cases e
    obtain ⟨x, y, rfl, r1, r2⟩ := two_of ra
    exact ⟨_, _, by rw [r1.int, r2.int], q _ F H New.refl sub (.int _)⟩
  · cases e
theorem jCBm {kap : Kp} {xi : Xi} {X : Cx} {W : WX} {e : Expr} {es : List Expr} {t : WX → TA} {os : List Op} {x : Str} {id : String} {rN : List V → Hp → VK → Prop} {fN : List D → Option D} {p pos : Pos} (hc : CallR X (.builtin id) rN) (s : SPN X.K kap rN fN) (hm : X.mg x = some (.builtin id)) (ha : JOs kap xi X W (e :: es) t os) (hg : Gl X x := by rfl) (hdb : (x == ("__debug__" : Str)) = false := by decide)
    (he : starEach (e :: es) X.env = (false, eval e X.env) :: starEach es X.env := by rfl) (hpl : (backTo pos (starEach es X.env)).any (·.1) = false := by rfl) : JE kap xi X W (.Call (.Name x p) (e :: es) [] pos) (fun W => tCB rN (t W)) (vON fN os) := ⟨pe_callBfun hc hg hm ha.p hdb he hpl, snd_oN s ha.s⟩
end DL
namespace DL
open PySem L2
end DL
namespace DL
open PySem L2 PySem.Spec PyProof.Rows
def dropO (vs : List Nat) : Ot → Ot
  | .nx de => .nx (wipeD de vs)
  | .ct de => .ct (wipeD de vs)
  | .brk de => .brk (wipeD de vs)
  | o => o
def vPost (vs : List Nat) (e : DEnv → Ot) (de : DEnv) : Ot := dropO vs (e de)
section
variable {K : PySem.W.Frag} {kap : Kp} {xi : Xi} {F H : Hp} {sg : L2.St} {de : DEnv} {O : Own?}
theorem RS.forget1 (R : RS K kap xi F H sg de O) (i : Nat) : ∃ O', RS K kap xi F H sg (de.set i .no) O' ∧ Go F H de O F H (de.set i .no) O' := by
  by_cases il : i < sg.length
  · have R2 := R.put i sg[i] .no none (fun _ e => by cases e) (fun _ e => by cases e) (fun _ _ e => by cases e) fun _ => rfl
    rw [List.set_getElem_self] at R2
    exact ⟨_, R2, Go.put i .no none (fun _ e => by cases e) fun _ e => by cases e⟩
  · have e : de.set i .no = de := List.set_eq_of_length_le (by rw [← R.len]; omega)
    rw [e]
    exact ⟨O, R, Go.refl⟩
theorem RS.forget : ∀ (vs : List Nat) {de : DEnv} {O : Own?}, RS K kap xi F H sg de O → ∃ O', RS K kap xi F H sg (wipeD de vs) O' ∧ Go F H de O F H (wipeD de vs) O'
  | [], de, O, R => ⟨O, R, Go.refl⟩
  | v :: vs, de, O, R => by
    obtain ⟨O1, R1, g1⟩ := RS.forget vs R
    obtain ⟨O2, R2, g2⟩ := R1.forget1 v
    exact ⟨O2, R2, g1.trans g2⟩
end
section
variable {kap : Kp} {xi : Xi} {X : Cx} {W : WX} {st : Stmt} {sts : List Stmt} {t : WX → TS} {e : DEnv → Ot}
theorem snd_post (vs : List Nat) {K : PySem.W.Frag} (h : SndS K kap xi t e) : SndS K kap xi t (vPost vs e) := by
  intro W F H sg de O Dn R hp
  refine h W F H sg de O Dn R ?_
  unfold vPost at hp
  cases eo : e de with
  | nx de1 =>
    rw [eo] at hp
    intro F' H' sg' O' R' g'
    obtain ⟨O2, R2, g2⟩ := R'.forget vs
    exact hp F' H' sg' O2 R2 (g'.trans g2)
  | ct de1 =>
    rw [eo] at hp
    intro F' H' sg' O' R' g'
    obtain ⟨O2, R2, g2⟩ := R'.forget vs
    exact hp F' H' sg' O2 R2 (g'.trans g2)
  | brk de1 =>
    rw [eo] at hp
    intro F' H' sg' O' R' g'
    obtain ⟨O2, R2, g2⟩ := R'.forget vs
    exact hp F' H' sg' O2 R2 (g'.trans g2)
  | ret d de1 => rw [eo] at hp; exact hp
  | retF d de1 => rw [eo] at hp; exact hp
  | ex c fs de1 => rw [eo] at hp; exact hp
  | bad => rw [eo] at hp; exact hp
theorem jPost (vs : List Nat) (h : JS kap xi X W st t e) : JS kap xi X W st t (vPost vs e) := ⟨h.p, snd_post vs h.s⟩
theorem jssPost (vs : List Nat) (h : JSs kap xi X W sts t e) : JSs kap xi X W sts t (vPost vs e) := ⟨h.p, snd_post vs h.s⟩
end
end DL
namespace DL
open PySem L2 PySem.Spec PyProof.Rows
abbrev HdD := (Nat → Option Bool) × Option Nat × (DEnv → Ot)
end DL
namespace DL
open PySem L2 PySem.Spec PyProof.Rows
end DL
namespace DL
open PySem L2
def scal : D → Bool
  | .non => true
  | .bl _ => true
  | .int _ => true
  | .str _ => true
  | _ => false
section
variable {K : PySem.W.Frag} {kap : Kp} {xi : Xi} {F H : Hp} {sg : St} {de : DEnv} {O : Own?} {W : WX}
theorem scal_rep {F' : Hp} {v : V} {d : D} (r : Rep K kap F' v d) (h : scal d = true) : Rep K kap F v d := by
  cases r <;> first | (cases h; done) | constructor
end
end DL
namespace DL
open PySem L2 PySem.Spec PyProof.Rows
end DL
namespace DL
open PySem L2 PySem.Spec PyProof.Rows
def cDivG (_ j : Int) : Bool := decide (j ≠ 0) && decide (j.natAbs < 2 ^ 8000)
def fFdivG : D → D → Option D := fIC cDivG fun i j => .int (i.fdiv j)
def CDivG (_ j : Int) : Prop := j ≠ 0 ∧ j.natAbs.log2 < 9000
theorem op_fdivG {X : Cx} : OpR X (binaryOp .FloorDiv) (rI CDivG fun i j => .int (i.fdiv j)) := opI fun _ _ _ _ _ _ _ hc q => floordiv_int hc.1 q (.inl (PyProof.noPylong_of_log2 hc.2))
theorem jFdivG {kap : Kp} {xi : Xi} {X : Cx} {W : WX} {a b : Expr} {ta tb : WX → TE} {oa ob : Op} {pos : Pos} (ha : JO kap xi X W a ta oa) (hb : JO kap xi X W b tb ob) : JE kap xi X W (.BinOp a .FloorDiv b pos) (fun W => tOp (rI CDivG fun i j => .int (i.fdiv j)) (ta W) (tb W)) (vO2 fFdivG oa ob) := jOp op_fdivG (spIC (fun i j h => by
    unfold cDivG at h
    rw [Bool.and_eq_true, decide_eq_true_eq, decide_eq_true_eq] at h
    refine ⟨h.1, ?_⟩
    by_cases h0 : j.natAbs = 0
    · rw [h0]; decide +kernel
    · exact Nat.lt_of_lt_of_le ((Nat.log2_lt h0).mpr h.2) (by decide)) fun _ _ _ => .int _) ha hb
end DL
namespace DL
open PySem L2 PySem.Spec PyProof.Rows
end DL
namespace DL
open PySem L2 PySem.Spec PyProof.Rows
end DL
namespace DL
open PySem L2 PySem.Spec PyProof.Rows
section
open PySem.W
variable {prog : Program} {w : World} {A : Around} {E : Value → Shared → Prop} {s : Shared} {K : Frag} {x C f : Addr} {ox : Obj} {od : Option Obj} {b tb : Value}
theorem objNe_K {Q : Fin → Shared → Prop} (X : K.In s.heap) (I : InstAt s.heap x ox C od) (hs : findIn K (.ref C) "__eq__" = some (some (.ref f))) (hf : isFn K (.ref f) = true) (hu : A.units < cLine)
    (hcall : wpAny (model prog w) A (call (.ref f) [.ref x, b]) (fun v s' => ∃ r, v = .bool r ∧ Q (.done (.ret (.bool (!r)))) s') E s) :
    wpAny (model prog w) A (Builtin.«object.__ne__» ⟨[.ref x, b], []⟩) Q E s := by
  unfold Builtin.«object.__ne__»
  repeat (first
    | with_reducible refine wpAny_cRoomFor hu ?_
    | (refine wpAny_bind (m := callSpecialIfBound? (.ref x) (Str.ofString "__eq__") [b])
        (ifBound_K X I hs hf (wpAny_mono hcall (fun r s' hr => by
          obtain ⟨b, rfl, hq⟩ := hr
          repeat (first | exact hq | exact wpAny_pure hq | exact wpAny_truthy_bool hq | (refine wpAny_bind (m := truthy (.bool _)) (wpAny_truthy_bool ?_)) | wp_step)) fun _ _ e => e)))
    | wp_step)
theorem ifBound_objNe {M : Model} {args : List Value} {Q : Option Value → Shared → Prop} (X : K.In s.heap) (I : InstAt s.heap x ox C od) (hs : findIn K (.ref C) "__ne__" = some (some (.builtin "object.__ne__")))
    (h : wpAny M A (call (.builtin "object.__ne__") (.ref x :: args)) (fun v => Q (some v)) E s) : wpAny M A (callSpecialIfBound? (.ref x) "__ne__" args) Q E s := by
  simp only [callSpecialIfBound?, bindSpecialIfBound?]
  refine wpAny_holding (wpAny_bind (wpAny_bind (wpAny_bind (I.type.here ((looks_findIn X hs).here ?_)))))
  refine wpAny_bind (wpAny_askSetting (wpAny_ite ?_))
  have fin : wpAny M A (call (.builtin "object.__ne__") ([.ref x] ++ args) >>= fun v => pure (some v)) Q E s := wpAny_bind (wpAny_mono h (fun v s' h' => wpAny_pure h') fun _ _ h' => h')
  split
  · exact wpAny_bind (wpAny_of_eq (F.cmp_object.ne.bind _) (wpAny_pure (by exact fin)))
  · exact wpAny_tryCatch (wpAny_bind (wpAny_of_eq (F.cmp_object.ne.bind _) (wpAny_pure (by exact fin))))
theorem cmp_ne_K {L : Addr} {h₀ : Heap} {m : Str → Option Value} {Q : Value → Shared → Prop} (hu : A.units + 1 < cLine) (Fr_ : Fr h₀ L s.heap m) (X₀ : K.In h₀) (I : InstAt s.heap x ox C od) (hb : Looks (model prog w) s.heap (typeOf b) tb) (hn : notFirst K C tb = true)
    (hm : mroIn K C (.type "object") = some true) (hne : findIn K (.ref C) "__ne__" = some (some (.builtin "object.__ne__"))) (hs : findIn K (.ref C) "__eq__" = some (some (.ref f))) (hf : isFn K (.ref f) = true)
    (h : wpAny (model prog w) A.in1 (call (.ref f) [.ref x, b]) (fun v s' => ∃ r, v = .bool r ∧ Q (.bool (!r)) s') E s) : wpAny (model prog w) A (richCompare .NotEq (.ref x) b) Q E s := by
  have X := X₀.keeps Fr_.keep
  have one : wpAny (model prog w) A (tryCompare (.ref x) (cmpInfo .NotEq).2.1 b) (fun r s' => ∃ v, r = some v ∧ Q v s') E s := by
    show wpAny (model prog w) A (tryCompare (.ref x) "__ne__" b) _ E s
    unfold tryCompare
    refine wpAny_bind (ifBound_objNe X I hne (wpAny_call (codeAny_call_builtin F.cmp_object.ne.plain F.cmpEntry_ne (check_slot F.cmpKind_ne F.cmpSplit_ne (I.type.andThen (looks_mroIn X hm)) (F.cmpArgs_ne _ _) ?_))))
    refine objNe_K X I hs hf (by show A.in1.units < cLine; exact Nat.lt_of_le_of_lt (by first | exact Nat.le_refl _ | simp [Around.in1]) hu) (wpAny_mono h (fun r s' hr => ?_) fun _ _ e => e)
    obtain ⟨r, rfl, q⟩ := hr
    exact ⟨r, rfl, wpAny_pure ⟨_, rfl, q⟩⟩
  unfold richCompare
  simp only [oneThing_ref]
  refine wpAny_holding (wpAny_bind (wpAny_cRoomFor (Nat.lt_of_succ_lt hu) ?_))
  refine wpAny_bind (I.type.here (wpAny_bind (hb.here ?_)))
  split
  · rename_i q
    have e : subIn K tb (.ref C) = some false := by
      rcases Bool.or_eq_true_iff.mp hn with e | e
      · rw [beq_iff_eq.mp e] at q; simp at q
      · exact beq_iff_eq.mp e
    refine wpAny_bind ((looks_subIn X e).here ?_)
    simp only [Bool.false_eq_true, if_false]
    refine wpAny_bind (wpAny_mono one (fun r s' z => ?_) fun _ _ e => e)
    obtain ⟨v, rfl, hq⟩ := z
    exact wpAny_pure hq
  · refine wpAny_bind (wpAny_pure ?_)
    simp only [Bool.false_eq_true, if_false]
    refine wpAny_bind (wpAny_mono one (fun r s' z => ?_) fun _ _ e => e)
    obtain ⟨v, rfl, hq⟩ := z
    exact wpAny_pure hq
end
def fNegB : Option D → Option D
  | some (.bl b) => some (.bl (!b))
  | _ => none
theorem RoomG.in1 {k : Nat} {A : Around} (r : RoomG (k + 1) A) : RoomG k A.in1 := ⟨r.r.in1, r.g⟩
end DL
namespace DL
open PySem L2 PySem.Spec PyProof.Rows
def isC (c : Nat) : D → Bool
  | .obj c' _ => c' == c
  | _ => false
end DL
namespace DL
open PySem L2 PySem.Spec PyProof.Rows
end DL
namespace DL
open PySem L2 PySem.Spec PyProof.Rows
end DL
namespace DL
open PySem L2 PySem.Spec PyProof.Rows
open PySem.SeqAt (EqIn EqAt)
end DL
namespace DL
open PySem L2
end DL
namespace DL
open PySem L2 PySem.Spec PyProof.Rows
end DL
namespace DL
open PySem L2 PySem.Spec PyProof.Rows
section
variable {prog : Program} {w : World} {A : Around} {E : Value → Shared → Prop} {s : Shared} {K : PySem.W.Frag} {x C dx f g : Addr} {ox : Obj} {od : Option Obj} {i : Int} {t : Tok}
open PySem.W
def Decl (B : Builtin) : Prop := ∀ (a : Int) (t : Tok) (x C dx : Addr), Meets (B ⟨[.int a t, .ref x], []⟩) (fun _ R s => s.heap.get? x = some (PySem.W.instObj C dx) ∧ R (.ok (.ret Value.notImplemented)) s)
theorem decl_lt : Decl Builtin.«int.__lt__» := fun a t x C dx => .of_wp fun prog w A R s h => by obtain ⟨hp, g, d, tk, os⟩ := s; obtain ⟨hl, h⟩ := h; wp_walk; exact ⟨_, rfl, h⟩
theorem decl_le : Decl Builtin.«int.__le__» := fun a t x C dx => .of_wp fun prog w A R s h => by obtain ⟨hp, g, d, tk, os⟩ := s; obtain ⟨hl, h⟩ := h; wp_walk; exact ⟨_, rfl, h⟩
theorem decl_gt : Decl Builtin.«int.__gt__» := fun a t x C dx => .of_wp fun prog w A R s h => by obtain ⟨hp, g, d, tk, os⟩ := s; obtain ⟨hl, h⟩ := h; wp_walk; exact ⟨_, rfl, h⟩
theorem decl_ge : Decl Builtin.«int.__ge__» := fun a t x C dx => .of_wp fun prog w A R s h => by obtain ⟨hp, g, d, tk, os⟩ := s; obtain ⟨hl, h⟩ := h; wp_walk; exact ⟨_, rfl, h⟩
theorem decl_eq : Decl Builtin.«int.__eq__» := fun a t x C dx => .of_wp fun prog w A R s h => by obtain ⟨hp, g, d, tk, os⟩ := s; obtain ⟨hl, h⟩ := h; wp_walk; exact ⟨_, rfl, h⟩
theorem decl_ne : Decl Builtin.«int.__ne__» := fun a t x C dx => .of_wp fun prog w A R s h => by obtain ⟨hp, g, d, tk, os⟩ := s; obtain ⟨hl, h⟩ := h; wp_walk; exact ⟨_, rfl, h⟩
end
def isRef (K : PySem.W.Frag) (kap : Kp) (c : Nat) (x : V) (H : Hp) : Prop := ∃ a dx fs, x = .ref a ∧ H a = some (.ins (kap c) dx fs)
end DL
namespace DL
open PySem L2 PySem.Spec PyProof.Rows
section
variable {prog : Program} {w : World} {A : Around} {E : Value → Shared → Prop} {s : Shared} {K : PySem.W.Frag} {x C dx f g : Addr} {ox : Obj} {od : Option Obj} {i : Int} {t : Tok}
open PySem.W
theorem try_K {Q : Value → Shared → Prop} {name : Str} {b : Value} (X : K.In s.heap) (I : PySem.W.InstAt s.heap x ox C od) (hs : findIn K (.ref C) name = some (some (.ref f))) (hf : isFn K (.ref f) = true)
    (h : wpAny (model prog w) A (call (.ref f) [.ref x, b]) (PySem.W.CmpBack Q) E s) : wpAny (model prog w) A (tryCompare (.ref x) name b) (fun r s' => ∃ v, r = some v ∧ Q v s') E s := by
  unfold tryCompare
  refine wpAny_bind (ifBound_K X I hs hf (wpAny_mono h (fun v s' hv => ?_) fun _ _ e => e))
  cases v <;> first | exact hv.elim | exact wpAny_pure ⟨_, rfl, hv⟩
theorem cmpR {op : CmpOp} {id : String} {Q : Value → Shared → Prop} (hu : A.units < cLine) (X : K.In s.heap) (I : PySem.W.InstAt s.heap x ox C od) (hsub : subIn K (.ref C) (.type "int") = some false) (hl : Slot "int" (cmpInfo op).2.1 id)
    (hd : ∀ Q' : Value → Shared → Prop, Q' .notImplemented s → wpAny (model prog w) A (call (.builtin id) [.int i t, .ref x]) Q' E s)
    (h : wpAny (model prog w) A (tryCompare (.ref x) (cmpInfo op).2.2 (.int i t)) (fun r s' => ∃ v, r = some v ∧ Q v s') E s) : wpAny (model prog w) A (richCompare op (.int i t) (.ref x)) Q E s := by
  unfold richCompare
  simp only [(typeIs_int s i t).oneThing_none]
  refine wpAny_holding (wpAny_bind (wpAny_cRoomFor hu ?_))
  refine wpAny_bind (wpAny_typeOf (typeIs_int s i t) (wpAny_bind (I.type.here ?_)))
  have hne : (Value.type "int" != Value.ref C) = true := by
    rw [bne_iff_ne]
    intro q
    cases q
  simp only [hne, if_true]
  refine wpAny_bind ((looks_subIn X hsub).here ?_)
  simp only [Bool.false_eq_true, if_false, Bool.not_false, if_true]
  refine wpAny_bind (wpAny_tryCompare_declines (typeIs_int s i t) hl (hd _ ⟨rfl, ?_⟩))
  refine wpAny_bind (wpAny_mono h (fun r s' hr' => ?_) fun _ _ e => e)
  obtain ⟨v, rfl, hq⟩ := hr'
  exact wpAny_pure hq
end
structure IntCmp (op : CmpOp) where
  id : String
  B : Builtin
  sl : Slot "int" (cmpInfo op).2.1 id
  en : entryFor table id = some B
  ar : ∀ a b, argsOk id ⟨[a, b], []⟩
  de : Decl B
  rc : compareOp op = richCompare op
def ic_lt : IntCmp .Lt := ⟨"int.__lt__", _, F.slot_int_lt, F.entry_int_lt, F.args_int_lt_2, decl_lt, rfl⟩
def ic_le : IntCmp .LtE := ⟨"int.__le__", _, F.slot_int_le, F.entry_int_le, F.args_int_le_2, decl_le, rfl⟩
def ic_gt : IntCmp .Gt := ⟨"int.__gt__", _, F.slot_int_gt, F.entry_int_gt, F.args_int_gt_2, decl_gt, rfl⟩
def ic_ge : IntCmp .GtE := ⟨"int.__ge__", _, F.slot_int_ge, F.entry_int_ge, F.args_int_ge_2, decl_ge, rfl⟩
def ic_eq : IntCmp .Eq := ⟨"int.__eq__", _, F.slot_int_eq, F.entry_int_eq, F.args_int_eq_2, decl_eq, rfl⟩
def ic_ne : IntCmp .NotEq := ⟨"int.__ne__", _, F.slot_int_ne, F.entry_int_ne, F.args_int_ne_2, decl_ne, rfl⟩
structure OwnC (P : Program) (w : World) (K : PySem.W.Frag) (mg : Str → Option Value) (base : Heap) (kap : Kp) (op : CmpOp) (k c : Nat) (m mr : List D → Fo) where
  g : DG P w K mg base kap k 2 none m []
  r : DG P w K mg base kap k 2 none mr []
  hs : PySem.W.findIn K (.ref (kap c)) (cmpInfo op).2.1 = some (some (.ref g.f))
  hf : PySem.W.isFn K (.ref g.f) = true
  rs : PySem.W.findIn K (.ref (kap c)) (cmpInfo op).2.2 = some (some (.ref r.f))
  rf : PySem.W.isFn K (.ref r.f) = true
  ni : PySem.W.mroIn K (kap c) (.type "int") = some false
def scR : Fo → Option D
  | .ret d none => if scal d = true then some d else none
  | _ => none
def fCmpO (c : Nat) (m mr : List D → Fo) (f : D → D → Option D) (a b : D) : Option D := match a, b with
  | .obj c1 fs, .obj c2 gs => if c1 = c ∧ c2 = c then scR (m [.obj c1 fs, .obj c2 gs]) else none
  | .obj c1 fs, .int j => if c1 = c then scR (m [.obj c1 fs, .int j]) else none
  | .int i, .obj c2 gs => if c2 = c then scR (mr [.obj c2 gs, .int i]) else none
  | a, b => f a b
def fNeO (c : Nat) (m mr : List D → Fo) (f : D → D → Option D) (a b : D) : Option D := match a, b with
  | .obj c1 fs, .obj c2 gs => if c1 = c ∧ c2 = c then fNegB (scR (m [.obj c1 fs, .obj c2 gs])) else none
  | .obj c1 fs, .int j => if c1 = c then fNegB (scR (m [.obj c1 fs, .int j])) else none
  | .int i, .obj c2 gs => if c2 = c then fNegB (scR (mr [.obj c2 gs, .int i])) else none
  | a, b => f a b
def rCmpO (K : PySem.W.Frag) (kap : Kp) (c : Nat) (m mr : List D → Fo) (r : R2) : R2 := fun x y H Q =>
  (isRef K kap c x H ∧ ((∃ j, y = .int j) ∨ isRef K kap c y H) ∧ spD K kap 2 none m [x, y] H Q (fun _ _ _ => False)) ∨ ((∃ i, x = .int i) ∧ isRef K kap c y H ∧ spD K kap 2 none mr [y, x] H Q (fun _ _ _ => False)) ∨ r x y H Q
def rNeO (K : PySem.W.Frag) (kap : Kp) (c : Nat) (m mr : List D → Fo) (r : R2) : R2 := fun x y H Q =>
  (isRef K kap c x H ∧ ((∃ j, y = .int j) ∨ isRef K kap c y H) ∧ spD K kap 2 none m [x, y] H (fun v H' => ∃ b, v = .bl b ∧ Q (.bl (!b)) H') (fun _ _ _ => False)) ∨ ((∃ i, x = .int i) ∧ isRef K kap c y H ∧ spD K kap 2 none mr [y, x] H (fun v H' => ∃ b, v = .bl b ∧ Q (.bl (!b)) H') (fun _ _ _ => False)) ∨ r x y H Q
section
variable {K : PySem.W.Frag} {kap : Kp} {c : Nat} {m mr : List D → Fo} {r : R2} {f : D → D → Option D}
theorem run_sc {F H : Hp} {x y : V} {a b z : D} {Q : VK} (sub : Same F H) (nt : NX kap F H) (ra : Rep K kap H x a) (rb : Rep K kap H y b) (e : scR (m [a, b]) = some z) (q : ∀ v F' H', New kap.tab F H F' H' → Same F' H' → Rep K kap F' v z → Q v H') : spD K kap 2 none m [x, y] H Q (fun _ _ _ => False) := by
  have A : ArgR K kap (nT H) H none [x, y] [a, b] none := ⟨rfl, fun i d hi _ => by
      match i, hi with
      | 0, hi => cases hi; exact ⟨_, rfl, ra.nT⟩
      | 1, hi => cases hi; exact ⟨_, rfl, rb.nT⟩, (fun k d z _ => by cases z), (fun z => absurd rfl z)⟩
  refine ⟨nT H, [a, b], none, rfl, nt.st, A, ?_⟩
  cases eo : m [a, b] with
  | ret d q' =>
    rw [eo] at e
    cases q' with
    | none =>
      have e : (if scal d = true then some d else none) = some z := e
      split at e
      · rename_i hsc
        cases e
        exact fun v F' H' f r => q v F H' (f.borrow sub nt).1 (f.borrow sub nt).2 (scal_rep r hsc)
      · cases e
    | some _ => cases e
  | retF d q' => rw [eo] at e; cases e
  | ex c fs q' => rw [eo] at e; cases e
  | bad => rw [eo] at e; cases e
theorem rb_ref {F H : Hp} {v : V} {fs : List (Str × D)} (e : Same F H) (h : RB K kap F H v (.obj c fs)) : isRef K kap c v H := by
  obtain ⟨p, dx, vs, rfl, h1, n1, r1⟩ := h.obj e
  exact ⟨p, dx, vs, rfl, h1⟩
theorem sp_cmpO (s : SP2 K kap r f) : SP2 K kap (rCmpO K kap c m mr r) (fCmpO c m mr f) := by
  intro F H x y a b z Q sub nt ra rb e q
  unfold fCmpO at e
  split at e
  · split at e
    · rename_i hc
      obtain ⟨h1, h2⟩ := hc
      subst h1
      subst h2
      exact .inl ⟨rb_ref sub ra, .inr (rb_ref sub rb), run_sc sub nt (ra.rep sub) (rb.rep sub) e q⟩
    · cases e
  · split at e
    · rename_i hc
      subst hc
      have ry : Rep K kap H y (.int _) := rb.rep sub
      cases ry
      exact .inl ⟨rb_ref sub ra, .inl ⟨_, rfl⟩, run_sc sub nt (ra.rep sub) (.int _) e q⟩
    · cases e
  · split at e
    · rename_i hc
      subst hc
      have rx : Rep K kap H x (.int _) := ra.rep sub
      cases rx
      exact .inr (.inl ⟨⟨_, rfl⟩, rb_ref sub rb, run_sc sub nt (rb.rep sub) (.int _) e q⟩)
    · cases e
  · exact .inr (.inr (s F H x y _ _ z Q sub nt ra rb e q))
theorem neg_some {o : Option D} {z : D} (h : fNegB o = some z) : ∃ b, o = some (.bl b) ∧ z = .bl (!b) := by
  unfold fNegB at h
  split at h
  · cases h
    exact ⟨_, rfl, rfl⟩
  · cases h
theorem sp_neO (s : SP2 K kap r f) : SP2 K kap (rNeO K kap c m mr r) (fNeO c m mr f) := by
  intro F H x y a b z Q sub nt ra rb e q
  unfold fNeO at e
  have qq : ∀ b, z = .bl (!b) → ∀ v F' H', New kap.tab F H F' H' → Same F' H' → Rep K kap F' v (.bl b) → ∃ b', v = .bl b' ∧ Q (.bl (!b')) H' := fun b hz v F' H' n s2 rr => by
    cases rr
    subst hz
    exact ⟨b, rfl, q _ F' H' n s2 (.bl _)⟩
  split at e
  · split at e
    · rename_i hc
      obtain ⟨h1, h2⟩ := hc
      subst h1
      subst h2
      obtain ⟨b, e, hz⟩ := neg_some e
      exact .inl ⟨rb_ref sub ra, .inr (rb_ref sub rb), run_sc sub nt (ra.rep sub) (rb.rep sub) e (qq b hz)⟩
    · cases e
  · split at e
    · rename_i hc
      subst hc
      obtain ⟨b, e, hz⟩ := neg_some e
      have ry : Rep K kap H y (.int _) := rb.rep sub
      cases ry
      exact .inl ⟨rb_ref sub ra, .inl ⟨_, rfl⟩, run_sc sub nt (ra.rep sub) (.int _) e (qq b hz)⟩
    · cases e
  · split at e
    · rename_i hc
      subst hc
      obtain ⟨b, e, hz⟩ := neg_some e
      have rx : Rep K kap H x (.int _) := ra.rep sub
      cases rx
      exact .inr (.inl ⟨⟨_, rfl⟩, rb_ref sub rb, run_sc sub nt (rb.rep sub) (.int _) e (qq b hz)⟩)
    · cases e
  · exact .inr (.inr (s F H x y _ _ z Q sub nt ra rb e q))
end
section
variable {X : Cx} {kap : Kp} {k c : Nat} {m mr : List D → Fo} {r : R2} {op : CmpOp}
theorem run_own2 (g : DG X.prog X.w X.K X.mg X.base kap k 2 none m []) (hr : RoomG k X.A) {pins : List (Addr × Obj)} {s : Shared} {σ : L2.St} {H : Hp} {x y : V} {v u : Value} {Q : VK} (I : Inv X pins σ H s) (rx : RelV x v) (ry : RelV y u) (h : spD X.K kap 2 none m [x, y] H Q (fun _ _ _ => False)) :
    wpAny (model X.prog X.w) X.A (call (.ref g.f) [v, u]) (PySem.W.CmpBack (EP X pins σ Q)) X.xe s := by
  have hl : g.dvs = [] := by
    have := g.rs (fun _ => none)
    cases h : g.dvs with
    | nil => rfl
    | cons v r => rw [h] at this; cases this
  have hrun := run_fnG (X := X) (Q := Q) (E := fun (_ : L2.St) (_ : Value) (_ : Option Addr) (_ : Hp) => False) (us := [v, u]) (vs := [x, y]) (dvs := g.dvs) g.ok hr g.bi g.vs (fun pins H s e s' I h => by
    obtain ⟨_, _, _, _, _, _, _, _, _, _, _, _, hf⟩ := h
    exact hf.elim) I (.cons rx (.cons ry .nil)) (by rw [hl]; exact h)
  refine wpAny_mono hrun (fun r s' hq => ?_) fun _ _ e => e
  obtain ⟨z, H', I', rz, q⟩ := hq
  cases r <;> first | (exact ⟨z, H', I', rz, q⟩) | (cases z <;> first | (cases rz; done) | (obtain ⟨_, h⟩ := rz; cases h))
theorem nf_int {K : PySem.W.Frag} {C : Addr} : PySem.W.notFirst K C (.type "int") = true := by
  unfold PySem.W.notFirst
  rw [sub_bo K C "int" (by decide)]
  simp
theorem nf_self {K : PySem.W.Frag} {C : Addr} : PySem.W.notFirst K C (.ref C) = true := by
  unfold PySem.W.notFirst
  simp
theorem op_cmpO (o : OwnC X.prog X.w X.K X.mg X.base kap op k c m mr) (ic : IntCmp op) (ho : OpR X (compareOp op) r) (hr : RoomG k X.A) : OpR X (compareOp op) (rCmpO X.K kap c m mr r) := by
  intro pins s σ H x y v u Q I rx ry h
  have hu : X.A.units < cLine := by have := hr.un; omega
  obtain ⟨mm, hF⟩ := I.fr
  rcases h with ⟨⟨p, dx, fs, rfl, hp⟩, hy, hsp⟩ | ⟨⟨i, rfl⟩, ⟨p, dx, fs, rfl, hp⟩, hsp⟩ | q
  · cases rx
    obtain ⟨mA, J, _⟩ := ins_get I.hok hp
    obtain ⟨od, J, _⟩ := J.look
    have hrun := run_own2 o.g hr I (x := .ref p) (v := .ref p) rfl ry hsp
    rw [ic.rc]
    rcases hy with ⟨j, rfl⟩ | ⟨p', dx', fs', rfl, hp'⟩
    · obtain ⟨t, rfl⟩ := ry
      exact PySem.W.cmp_K hu hF I.ok.mod.kin J (tb := .type "int") (PySem.W.Looks.of_pure rfl) nf_int o.hs o.hf hrun
    · cases ry
      obtain ⟨mA', J', _⟩ := ins_get I.hok hp'
      obtain ⟨od', J', _⟩ := J'.look
      exact PySem.W.cmp_K hu hF I.ok.mod.kin J J'.type nf_self o.hs o.hf hrun
  · obtain ⟨t, rfl⟩ := rx
    cases ry
    obtain ⟨mA, J, _⟩ := ins_get I.hok hp
    have hob := J.obj
    obtain ⟨od, J, _⟩ := J.look
    have hrun := run_own2 o.r hr I (x := .ref p) (v := .ref p) (y := .int i) (u := .int i t) rfl ⟨t, rfl⟩ hsp
    rw [ic.rc]
    exact cmpR hu I.kIn J o.ni ic.sl (fun Q' hq => call_meets ic.sl (typeIs_int s i t) ic.en (ic.ar _ _) (ic.de i t p (kap c) dx) ⟨hob, hq⟩) (try_K I.kIn J o.rs o.rf hrun)
  · exact ho pins s σ H x y v u Q I rx ry q
end
end DL
namespace DL
open PySem L2 PySem.Spec PyProof.Rows
def vBadS (_ : DEnv) : Ot := .bad
section
variable {X : Cx} {kap : Kp} {xi : Xi} {W : WX}
theorem jBadS {st : Stmt} : JS kap xi X W st (fun _ _ _ _ => False) vBadS := ⟨⟨fun _ _ _ _ _ _ h => h.elim⟩, fun W F H sg de O Dn R hp => hp.elim⟩
end
section
open PySem.W
variable {prog : Program} {w : World} {A : Around} {E : Value → Shared → Prop} {s : Shared} {K : PySem.W.Frag} {x C f : Addr} {ox : Obj} {od : Option Obj} {b : Value}
theorem try_neK {Q : Value → Shared → Prop} (hu : A.units + 1 < cLine) (X : K.In s.heap) (I : PySem.W.InstAt s.heap x ox C od) (hm : mroIn K C (.type "object") = some true) (hne : findIn K (.ref C) "__ne__" = some (some (.builtin "object.__ne__"))) (hs : findIn K (.ref C) "__eq__" = some (some (.ref f))) (hf : isFn K (.ref f) = true)
    (h : wpAny (model prog w) A.in1 (call (.ref f) [.ref x, b]) (fun v s' => ∃ r, v = .bool r ∧ Q (.bool (!r)) s') E s) : wpAny (model prog w) A (tryCompare (.ref x) "__ne__" b) (fun r s' => ∃ v, r = some v ∧ Q v s') E s := by
  unfold tryCompare
  refine wpAny_bind (ifBound_objNe X I hne (wpAny_call (codeAny_call_builtin F.cmp_object.ne.plain F.cmpEntry_ne (check_slot F.cmpKind_ne F.cmpSplit_ne (I.type.andThen (looks_mroIn X hm)) (F.cmpArgs_ne _ _) ?_))))
  refine objNe_K X I hs hf (by show A.in1.units < cLine; exact Nat.lt_of_le_of_lt (by first | exact Nat.le_refl _ | simp [Around.in1]) hu) (wpAny_mono h (fun r s' hr => ?_) fun _ _ e => e)
  obtain ⟨r, rfl, q⟩ := hr
  exact ⟨r, rfl, wpAny_pure ⟨_, rfl, q⟩⟩
end
structure OwnNe (P : Program) (w : World) (K : PySem.W.Frag) (mg : Str → Option Value) (base : Heap) (kap : Kp) (k c : Nat) (m : List D → Fo) where
  g : DG P w K mg base kap k 2 none m []
  hs : PySem.W.findIn K (.ref (kap c)) "__eq__" = some (some (.ref g.f))
  hf : PySem.W.isFn K (.ref g.f) = true
  hm : PySem.W.mroIn K (kap c) (.type "object") = some true
  hne : PySem.W.findIn K (.ref (kap c)) "__ne__" = some (some (.builtin "object.__ne__"))
  ni : PySem.W.mroIn K (kap c) (.type "int") = some false
section
variable {X : Cx} {kap : Kp} {k c : Nat} {m : List D → Fo} {r : R2}
theorem run_ne (g : DG X.prog X.w X.K X.mg X.base kap k 2 none m []) (hr : RoomG k X.A.in1) {pins : List (Addr × Obj)} {s : Shared} {σ : L2.St} {H : Hp} {x y : V} {v u : Value} {Q : VK} (I : Inv X pins σ H s) (rx : RelV x v) (ry : RelV y u) (h : spD X.K kap 2 none m [x, y] H (fun v H' => ∃ b, v = .bl b ∧ Q (.bl (!b)) H') (fun _ _ _ => False)) :
    wpAny (model X.prog X.w) X.A.in1 (call (.ref g.f) [v, u]) (fun v s' => ∃ r, v = .bool r ∧ EP X pins σ Q (.bool (!r)) s') X.xe s := by
  have hl : g.dvs = [] := by
    have := g.rs (fun _ => none)
    cases h : g.dvs with
    | nil => rfl
    | cons v r => rw [h] at this; cases this
  have r2 : Vals ([x, y] ++ g.dvs) ([v, u] ++ g.ds) := Vals.append (.cons rx (.cons ry .nil)) g.vs
  have e0 : Env0 X.prog X.w X.K X.mg X.base X.A.in1 X.stack s H := by
    have e := I.env0
    exact ⟨e.frames, e.mod, e.bs, e.bsz, e.funs, e.frf, e.hok, e.bare⟩
  have hsp2 : spD X.K kap 2 none m ([x, y] ++ g.dvs) H (fun v H' => ∃ b, v = .bl b ∧ Q (.bl (!b)) H') (fun _ _ _ => False) := by rw [hl]; exact h
  refine wpAny_call (codeAny_mono (g.ok.run X.A.in1 X.stack s H ⟨[v, u], []⟩ ([v, u] ++ g.ds) ([x, y] ++ g.dvs) _ _ hr e0 (g.bi s [v, u] I.kIn (by rw [← r2.length]; exact g.ok.len _ _ _ _ hsp2)) r2 hsp2) fun r s' hq => ?_)
  cases r with
  | error e =>
    obtain ⟨_, _, _, _, _, _, _, _, _, _, _, _, hf⟩ := hq
    exact hf.elim
  | ok fl => cases fl with
    | ret w =>
      obtain ⟨z, H', I', rz, b, rfl, q⟩ := I.after hq
      cases rz
      exact ⟨b, rfl, .bl (!b), H', I', rfl, q⟩
    | next => exact hq.elim
    | brk => exact hq.elim
    | cont => exact hq.elim
theorem op_neO (o : OwnNe X.prog X.w X.K X.mg X.base kap k c m) (ho : OpR X (compareOp .NotEq) r) (hr : RoomG (k + 1) X.A) : OpR X (compareOp .NotEq) (rNeO X.K kap c m m r) := by
  intro pins s σ H x y v u Q I rx ry h
  have hu : X.A.units + 1 < cLine := by have := hr.un; omega
  obtain ⟨mm, hF⟩ := I.fr
  rcases h with ⟨⟨p, dx, fs, rfl, hp⟩, hy, hsp⟩ | ⟨⟨i, rfl⟩, ⟨p, dx, fs, rfl, hp⟩, hsp⟩ | q
  · cases rx
    obtain ⟨mA, J, _⟩ := ins_get I.hok hp
    obtain ⟨od, J, _⟩ := J.look
    have hrun := run_ne o.g hr.in1 I (x := .ref p) (v := .ref p) rfl ry hsp
    rcases hy with ⟨j, rfl⟩ | ⟨p', dx', fs', rfl, hp'⟩
    · obtain ⟨t, rfl⟩ := ry
      exact cmp_ne_K (tb := .type "int") hu hF I.ok.mod.kin J (PySem.W.Looks.of_pure rfl) nf_int o.hm o.hne o.hs o.hf hrun
    · cases ry
      obtain ⟨mA', J', _⟩ := ins_get I.hok hp'
      obtain ⟨od', J', _⟩ := J'.look
      exact cmp_ne_K hu hF I.ok.mod.kin J J'.type nf_self o.hm o.hne o.hs o.hf hrun
  · obtain ⟨t, rfl⟩ := rx
    cases ry
    obtain ⟨mA, J, _⟩ := ins_get I.hok hp
    have hob := J.obj
    obtain ⟨od, J, _⟩ := J.look
    have hrun := run_ne o.g hr.in1 I (x := .ref p) (v := .ref p) (y := .int i) (u := .int i t) rfl ⟨t, rfl⟩ hsp
    exact cmpR (op := .NotEq) (by omega) I.kIn J o.ni ic_ne.sl (fun Q' hq => call_meets ic_ne.sl (typeIs_int s i t) ic_ne.en (ic_ne.ar _ _) (ic_ne.de i t p (kap c) dx) ⟨hob, hq⟩) (try_neK hu I.kIn J o.hm o.hne o.hs o.hf hrun)
  · exact ho pins s σ H x y v u Q I rx ry q
end
end DL
namespace DL
open PySem L2 PySem.Spec PyProof.Rows
end DL
namespace DL
open PySem L2 PySem.Spec PyProof.Rows
end DL
set_option maxHeartbeats 4000000
namespace DL
open PySem L2 PySem.Spec PyProof.Rows
end DL
set_option maxHeartbeats 2000000
namespace DL
open PySem L2
end DL
namespace DL
open PySem L2
end DL
namespace DL
open PySem L2
end DL
namespace DL
open PySem L2 LamX NdefX PySem.Spec PyProof.Rows
def AtCells (H : Hp) (cs : List Addr) : Prop := ∀ c ∈ cs, ∃ (o : Obj) (w : Option Value), H c = some (ObjX c o) ∧ o.data = .cell w
theorem AtCells.mono {H H' : Hp} {cs : List Addr} (h : AtCells H cs) (e : Same H H') : AtCells H' cs := fun c hc => let ⟨o, w, a, b⟩ := h c hc; ⟨o, w, e _ _ a, b⟩
end DL
namespace DL
open PySem L2 LamX NdefX PySem.Spec PyProof.Rows
end DL
namespace DL
open PySem L2 LamX NdefX PySem.Spec PyProof.Rows
end DL
namespace DL
open PySem L2 LamX NdefX PySem.Spec PyProof.Rows
end DL
namespace DL
open PySem L2 LamX NdefX PySem.Spec PyProof.Rows
section
variable {K : PySem.W.Frag} {kap : Kp} {xi : Xi} {F H : Hp} {sg : L2.St} {de : DEnv} {O : Own?} {W : WX}
theorem FPost.add {F' H' : Hp} {p : Addr} {o : HO} (f : FPost K kap F H F' H' none none) (hf : F' p = none) (ho : H' p = some o) (hH : H p = none) (hn : ∀ ps, o ≠ .tbl ps) : FPost K kap F H (upd F' p o) H' none none where
  ex := f.ex.trans (same_upd hf)
  sub := fun a u e => by
    by_cases z : a = p
    · subst z; rw [upd_same] at e; cases e; exact ho
    · rw [upd_ne z] at e; exact f.sub a u e
  keep := f.keep
  dom := f.dom
  fnew := fun a e => by
    by_cases z : a = p
    · subst z; exact .inr hH
    · rw [upd_ne z] at e; exact f.fnew a e
  own := fun p z => by cases z
  nt := f.nt.upd hn
  tab := f.tab
end
end DL
namespace DL
open PySem L2 LamX NdefX PySem.Spec PyProof.Rows
end DL
namespace DL
open PySem L2 LamX NdefX PySem.Spec PyProof.Rows
end DL
namespace DL
open PySem L2 LamX NdefX PySem.Spec PyProof.Rows
end DL
namespace DL
open PySem L2 PySem.Spec PyProof.Rows
end DL
namespace DL
open PySem L2 PySem.Spec PyProof.Rows
end DL
namespace DL
open PySem L2 PySem.Spec PyProof.Rows
end DL
namespace DL
open PySem L2 PySem.Spec PyProof.Rows
end DL
namespace DL
open PySem L2 PySem.Spec PyProof.Rows
def fmtD : D → Option D
  | .str y => if y.length ≤ 16777216 then some (.str y) else none
  | .int i => if i.natAbs.log2 < 1920 then some (.str (toString i)) else none
  | _ => none
def vFmt (ev : DEnv → Rs D) (de : DEnv) : Rs D := (ev de).bind fun d de1 => ofO (fmtD d) de1
def vFs : List (DEnv → Rs D) → Str → DEnv → Rs D
  | [], acc, de => .ok (.str acc) de
  | e :: es, acc, de => (e de).bind fun d de1 => match d with
    | .str y => if (acc ++ y).length ≤ 16777216 then vFs es (acc ++ y) de1 else .bad
    | _ => .bad
section
variable {kap : Kp} {xi : Xi} {X : Cx} {W : WX} {e : Expr} {es : List Expr} {t : WX → TE} {ev : DEnv → Rs D} {pos : Pos}
theorem jFmt (h : JE kap xi X W e t ev) : JE kap xi X W (.FormattedValue e (-1) none pos) (fun W => tFmt (t W)) (vFmt ev) := ⟨pe_fmt h.p, by
  intro W F H sg de O Q R hp
  refine h.s.bind R hp fun v d F1 H1 de1 O1 R1 g1 rv _ hp => ?_
  obtain ⟨z, e, hp⟩ := ofO_some hp
  unfold fmtD at e
  split at e
  · split at e
    · rename_i h
      cases e
      cases rv
      exact .inl ⟨_, rfl, by rw [line_eq]; exact h, hp.done R1 New.refl R1.sub (.str _)⟩
    · cases e
  · split at e
    · rename_i h
      cases e
      cases rv
      exact .inr ⟨_, rfl, h, hp.done R1 New.refl R1.sub (.str _)⟩
    · cases e
  · cases e⟩
structure JFs (kap : Kp) (xi : Xi) (X : Cx) (W : WX) (es : List Expr) (ts : WX → List TE) (evs : List (DEnv → Rs D)) : Prop where
  p : PJ X es (ts W)
  s : ∀ (W : WX) (F H : Hp) (sg : L2.St) (de : DEnv) (O : Own?) (Q : VK) (acc : Str), RS X.K kap xi F H sg de O → PE1 X.K kap (RlE X.K kap) xi F H sg de O W Q (vFs evs acc de) → tJs (ts W) acc sg H fun out H1 => Q (.str out) H1
theorem jfsNil : JFs kap xi X W [] (fun _ => []) [] := ⟨.nil, fun W F H sg de O Q acc R hp => hp.done R New.refl R.sub (.str _)⟩
theorem jfsCons {ts : WX → List TE} {evs : List (DEnv → Rs D)} (h : JE kap xi X W e t ev) (r : JFs kap xi X W es ts evs) : JFs kap xi X W (e :: es) (fun W => t W :: ts W) (ev :: evs) := ⟨.cons h.p r.p, by
  intro W F H sg de O Q acc R hp
  refine h.s.bind R hp fun v d F1 H1 de1 O1 R1 g1 rv _ hp => ?_
  split at hp
  · split at hp
    · rename_i y hl
      have rv : Rep X.K kap F1 v (.str y) := rv
      cases rv
      exact ⟨y, rfl, by rw [line_eq]; exact hl, r.s W F1 H1 _ de1 O1 Q (acc ++ y) R1 hp⟩
    · exact hp.elim
  · exact hp.elim⟩
theorem jJoined {v1 v2 : Expr} {rest : List Expr} {ts : WX → List TE} {evs : List (DEnv → Rs D)} (h : JFs kap xi X W (v1 :: v2 :: rest) ts evs) :
    JE kap xi X W (.JoinedStr (v1 :: v2 :: rest) pos) (fun W σ H Q => tJs (ts W) Str.empty σ H fun out H1 => Q (.str out) H1) (vFs evs Str.empty) := ⟨pe_joined h.p, fun W F H sg de O Q R hp => h.s W F H sg de O Q Str.empty R hp⟩
end
end DL
namespace DL
open PySem L2 PySem.Spec PyProof.Rows
def spNI (K : PySem.W.Frag) (kap : Kp) (cond : List D → Bool) (vs : List V) (H : Hp) (Q : Hp → Prop) : Prop := ∃ F ds, ds.length = 2 ∧ St0 kap F H ∧ ArgR K kap F H none vs ds none ∧ cond ds = true ∧ ∀ F' H', FPost K kap F H F' H' none none → Q H'
structure FnNI (P : Program) (w : World) (K : PySem.W.Frag) (mg : Str → Option Value) (base : Heap) (kap : Kp) (k : Nat) (f : Addr) (fd : FuncData) (ps : List Str) (cond : List D → Bool) : Prop where
  len : ps.length = 2
  run : ∀ (A : Around) (outer : List Env) (s : Shared) (H : Hp) (args : Args) (us : List Value) (vs : List V) (Q : Hp → Prop), RoomG k A → Env0 P w K mg base A outer s H → BindsTo s fd args (ps.zip us) → Vals vs us → spNI K kap cond vs H Q →
    codeAny (model P w) A (.call (.ref f) args) (fun r s' => r = .ok (.ret .notImplemented) ∧ CE outer P w H s (fun v H' => v = .non ∧ Q H') .none s') s
def condNI (nl : Nat) (tv : DEnv → Rs Bool) (ds : List D) : Bool := match tv (env0 none ds ++ List.replicate nl .no) with
  | .ok true _ => true
  | _ => false
theorem bt_NotImplemented : bootBuiltins ("NotImplemented" : Str) = some .notImplemented := by decide +kernel
theorem raw_ni {X : Cx} {test : Expr} {tt : TT} {rest : List Stmt} {p1 p2 p3 : Pos} {pins : List (Addr × Obj)} {σ : L2.St} {H : Hp} {s : Shared} {Q : Hp → Prop} (ht : PT X test tt) (hg : Gl X "NotImplemented") (hm : X.mg "NotImplemented" = none) (I : Inv X pins σ H s)
    (h : tt σ H fun b H1 => b = true ∧ Q H1) : wpAny (model X.prog X.w) X.A (execs (.If test [.Return (some (.Name "NotImplemented" p1)) p2] [] p3 :: rest) X.env) (fun fl s' => fl = .ret .notImplemented ∧ ∃ H', Inv X pins σ H' s' ∧ Q H') X.xe s := by
  refine wpAny_execs_cons (wpAny_If (thn (ht.run pins s σ H _ I h) fun d s1 ⟨H1, I1, hd, q1⟩ => ?_))
  subst hd
  rw [if_pos rfl]
  refine wpAny_execs_cons (wpAny_Return_some (ld_blt I1 hg hm bt_NotImplemented ?_ (by decide) (by decide)))
  exact ⟨rfl, H1, I1, q1⟩
theorem fnNI_of {P : Program} {w : World} {K : PySem.W.Frag} {mg : Str → Option Value} {base : Heap} {kap : Kp} {k nl : Nat} {f : Addr} {name qual : Str} {params : Arguments} {body : List Stmt} {scope : Scope} {dV kV doc pm cdv ct oc : Value} {an od : Option Addr}
    {osl : Array (Option Value)} {N ps : List Str} {tv : DEnv → Rs Bool} {test : Expr} {rest : List Stmt} {p1 p2 p3 : Pos} (lk : K.lookup f = some ⟨oc, od, .func (PySem.W.fnOf name qual params body scope dV kV doc pm an cdv ct), osl⟩) (hcd : PySem.W.codeIn K cdv qual = true) (S : FnScope N ps scope)
    (hn : ps.length = 2) (hN : N.length = 2 + nl) (hst : body = .If test [.Return (some (.Name "NotImplemented" p1)) p2] [] p3 :: rest) (hm : mg "NotImplemented" = none)
    (hbody : ∀ (A : Around) (outer : List Env) (s : Shared) (H : Hp) (E : XK), RoomG k (A.deeper (envOfC qual scope s.heap.objs.size f cdv)) →
      Gl (cxOf (L2.CX P w) P w K mg base N qual scope f cdv A outer s H E) "NotImplemented" ∧ ∃ t, JT kap none (cxOf (L2.CX P w) P w K mg base N qual scope f cdv A outer s H E) (fun cls d _ H => E cls d H) test t tv) :
    FnNI P w K mg base kap (k + 1) f (PySem.W.fnOf name qual params body scope dV kV doc pm an cdv ct) ps (condNI nl tv) := by
  subst hst
  refine ⟨hn, fun A outer s H args us vs Q hr e0 hb r hsp => ?_⟩
  obtain ⟨F, ds, hd, st0, AR, hc, hq⟩ := hsp
  have hlv : vs.length = ps.length := by rw [AR.len, hd, hn]
  have KX : K.In s.heap := e0.mod.kin.keeps fun b o e => (e0.bs b o e).1
  have kinds : ∀ y ∈ ps.zip us, scope.names.lookup y.1 = some .local ∨ (scope.names.lookup y.1 = some .cell ∧ ((cellsFrom (s.heap.objs.size + 1) scope.names []).lookup y.1).isSome = true) := by
    rintro ⟨n, v⟩ hy
    exact (S.par n (List.of_mem_zip hy).1).imp id fun q => ⟨q, PySem.W.cellsFrom_some _ _ _ (.inl q)⟩
  refine codeAny_call_function hr.r.depth (KX _ _ lk) rfl S.co S.gen rfl (PySem.W.codeRec_of KX hcd) (hb _ _ _ _ (wpAny_newFunctionEnv_cells S.kind kinds fun env he s1 x => ?_))
  subst he
  refine ⟨Heap.NoLimit.keeps (e0.mod.nolimit.keeps fun b o e => (e0.bs b o e).1) x.toInCall.keep, codeAny_func ?_⟩
  obtain ⟨hg, t, J⟩ := hbody A outer s H (fun _ _ _ => False) (hr.deeper _)
  have hvo : condNI nl tv ds = true := hc
  unfold condNI at hvo
  have R0 := rs_start (K := K) (kap := kap) (mu := none) (P := none) N nl (by rw [hd]; exact hN) st0 AR
  have hs := J.s (fun cls d _ H => False) F H _ _ _ (fun b H1 => b = true ∧ Q H1) R0 (by
    cases eo : tv (env0 none ds ++ List.replicate nl .no) with
    | ok b de1 =>
      rw [eo] at hvo
      cases b with
      | false => cases hvo
      | true =>
        intro v F' H' O' R' g' q _
        exact ⟨q, hq F' H' (post_of AR R' g' rfl).1⟩
    | ex c fs de1 => rw [eo] at hvo; cases hvo
    | bad => rw [eo] at hvo; cases hvo)
  have hw := raw_ni (X := cxOf (L2.CX P w) P w K mg base N qual scope f cdv A outer s H (fun _ _ _ => False)) (p1 := p1) (p2 := p2) (p3 := p3) (rest := rest) J.p hg hm (inv_start S hr.r.hd e0 hlv r x) hs
  refine wpAny_mono hw (fun fl s' hfl => ?_) fun e s' hs => ?_
  · obtain ⟨rfl, H', J', q⟩ := hfl
    exact ⟨rfl, .non, H', J'.os, J'.bare, J'.base, J'.hok, rfl, rfl, q⟩
  · have no : ∀ {e : Value} {s' : Shared}, L2.CX P w outer H s (fun _ _ _ => False) e s' → False := fun {e s'} h => by
      obtain ⟨_, _, _, _, _, _, _, _, _, _, _, _, hf⟩ := h
      exact hf
    exact wpAny_mono hs (fun _ _ h => (no h).elim) fun _ _ h => (no h).elim
theorem Fun.dlNI {P : Program} {w : World} {K : PySem.W.Frag} {mg : Str → Option Value} {base : Heap} {kap : Kp} {x qual : Str} {st : Stmt} {f : Addr} {fd : FuncData} {N ps : List Str} {k : Nat} {nl : Nat} {tv : DEnv → Rs Bool} {test : Expr} {rest : List Stmt} {p1 p2 p3 : Pos}
    (F : Fun K x qual st f fd) (S : FnScope N ps (defScope st)) (hn : ps.length = 2) (hN : N.length = 2 + nl) (hst : defBody st = .If test [.Return (some (.Name "NotImplemented" p1)) p2] [] p3 :: rest) (hm : mg "NotImplemented" = none)
    (hbody : ∀ (cdv : Value) (A : Around) (outer : List Env) (s : Shared) (H : Hp) (E : XK), RoomG k (A.deeper (envC qual (defScope st) s.heap.objs.size f cdv)) →
      Takes (cxOf (L2.CX P w) P w K mg base N qual (defScope st) f cdv A outer s H E) (fun cls d _ H => E cls d H) →
      Gl (cxOf (L2.CX P w) P w K mg base N qual (defScope st) f cdv A outer s H E) "NotImplemented" ∧ ∃ t, JT kap none (cxOf (L2.CX P w) P w K mg base N qual (defScope st) f cdv A outer s H E) (fun cls d _ H => E cls d H) test t tv) :
    FnNI P w K mg base kap (k + 1) f fd ps (condNI nl tv) := by
  obtain ⟨oc, od, kV, doc, pm, an, cdv, ct, osl, rfl, lk, hcd⟩ := F.ex
  exact fnNI_of lk hcd S hn hN hst hm fun A outer s H E hr => hbody cdv A outer s H E hr (takes_of rfl rfl rfl rfl)
structure OwnNI (P : Program) (w : World) (K : PySem.W.Frag) (mg : Str → Option Value) (base : Heap) (kap : Kp) (k c : Nat) (cond : List D → Bool) where
  f : Addr
  fd : FuncData
  ps : List Str
  ok : FnNI P w K mg base kap k f fd ps cond
  bi : Binds K fd ps []
  hs : PySem.W.findIn K (.ref (kap c)) "__eq__" = some (some (.ref f))
  hf : PySem.W.isFn K (.ref f) = true
  hm : PySem.W.mroIn K (kap c) (.type "object") = some true
  hne : PySem.W.findIn K (.ref (kap c)) "__ne__" = some (some (.builtin "object.__ne__"))
  nN : PySem.W.subIn K (.ref (kap c)) (.type "NoneType") = some false
  nb : PySem.W.subIn K (.ref (kap c)) (.type "bool") = some false
  nS : PySem.W.subIn K (.ref (kap c)) (.type "str") = some false
  nl : PySem.W.subIn K (.ref (kap c)) (.type "list") = some false
  nt : PySem.W.subIn K (.ref (kap c)) (.type "tuple") = some false
  nd : PySem.W.subIn K (.ref (kap c)) (.type "dict") = some false
def NotT (prog : Program) (w : World) (s : Shared) (x : Addr) (T : String) : Prop := ∀ (A : Around) (Q : Bool → Shared → Prop) (E : Value → Shared → Prop), Q false s → wpAny (model prog w) A (isInstance (.ref x) (.type T)) Q E s
theorem notT_of {prog : Program} {w : World} {s : Shared} {K : PySem.W.Frag} {x C : Addr} {ox : Obj} {od : Option Obj} {T : String} (X : K.In s.heap) (I : PySem.W.InstAt s.heap x ox C od) (hs : PySem.W.subIn K (.ref C) (.type T) = some false) : NotT prog w s x T := fun A Q E h => by
  unfold isInstance
  exact wpAny_bind (I.type.here ((PySem.W.looks_subIn X hs).here h))
def Decl0 (B : Builtin) (v : Value) : Prop := ∀ (x C dx : Addr), Meets (B ⟨[v, .ref x], []⟩) (fun _ R s => s.heap.get? x = some (PySem.W.instObj C dx) ∧ R (.ok (.ret Value.notImplemented)) s)
theorem d_str_eq (z : Str) (t : Tok) : Decl0 Builtin.«str.__eq__» (.str z t) := fun x C dx => .of_wp fun prog w A R s h => by obtain ⟨hp, g, d, tk, os⟩ := s; obtain ⟨hl, h⟩ := h; wp_walk using PySem.AutoSeq1.wpAny_loadPart' hl, wpAny_load hl; exact ⟨_, rfl, h⟩
theorem d_str_ne (z : Str) (t : Tok) : Decl0 Builtin.«str.__ne__» (.str z t) := fun x C dx => .of_wp fun prog w A R s h => by obtain ⟨hp, g, d, tk, os⟩ := s; obtain ⟨hl, h⟩ := h; wp_walk using PySem.AutoSeq1.wpAny_loadPart' hl, wpAny_load hl; exact ⟨_, rfl, h⟩
theorem d_bool_eq (z : Bool) : Decl0 Builtin.«int.__eq__» (.bool z) := fun x C dx => .of_wp fun prog w A R s h => by obtain ⟨hp, g, d, tk, os⟩ := s; obtain ⟨hl, h⟩ := h; wp_walk using PySem.AutoSeq1.wpAny_loadPart' hl, wpAny_load hl; exact ⟨_, rfl, h⟩
theorem d_bool_ne (z : Bool) : Decl0 Builtin.«int.__ne__» (.bool z) := fun x C dx => .of_wp fun prog w A R s h => by obtain ⟨hp, g, d, tk, os⟩ := s; obtain ⟨hl, h⟩ := h; wp_walk using PySem.AutoSeq1.wpAny_loadPart' hl, wpAny_load hl; exact ⟨_, rfl, h⟩
theorem d_none_eq : Decl0 Builtin.«NoneType.__eq__» .none := fun x C dx => .of_wp fun prog w A R s h => by obtain ⟨hp, g, d, tk, os⟩ := s; obtain ⟨hl, h⟩ := h; wp_walk; exact ⟨_, rfl, h⟩
theorem d_none_ne : Decl0 Builtin.«NoneType.__ne__» .none := fun x C dx => .of_wp fun prog w A R s h => by obtain ⟨hp, g, d, tk, os⟩ := s; obtain ⟨hl, h⟩ := h; wp_walk; exact ⟨_, rfl, h⟩
section
variable {prog : Program} {w : World} {A : Around} {R : Result → Shared → Prop} {s : Shared} {l x : Addr} {o : Obj}
theorem d_list_eq (hl : s.heap.get? l = some o) (hc : o.cls = .type "list") (hI : NotT prog w s x "list") (h : R (.ok (.ret .notImplemented)) s) :
    wpAny (model prog w) A.in1 (Builtin.«list.__eq__» ⟨[.ref l, .ref x], []⟩) (GQ.FinOf prog w A R) (fun e s' => R (.error e) s') s := by
  obtain ⟨oc, od, oda, osl⟩ := o
  cases hc
  have hI' := fun Q q => hI A.in1 Q (fun e s' => R (.error e) s') q
  obtain ⟨hp, g, d, tk, os⟩ := s
  wp_walk using PySem.AutoSeq1.wpAny_loadPart' hl, hI'
  exact h
theorem d_list_ne (hl : s.heap.get? l = some o) (hc : o.cls = .type "list") (hI : NotT prog w s x "list") (h : R (.ok (.ret .notImplemented)) s) :
    wpAny (model prog w) A.in1 (Builtin.«list.__ne__» ⟨[.ref l, .ref x], []⟩) (GQ.FinOf prog w A R) (fun e s' => R (.error e) s') s := by
  obtain ⟨oc, od, oda, osl⟩ := o
  cases hc
  have hI' := fun Q q => hI A.in1 Q (fun e s' => R (.error e) s') q
  obtain ⟨hp, g, d, tk, os⟩ := s
  wp_walk using PySem.AutoSeq1.wpAny_loadPart' hl, hI'
  exact h
theorem d_tuple_eq (hl : s.heap.get? l = some o) (hc : o.cls = .type "tuple") (hI : NotT prog w s x "tuple") (h : R (.ok (.ret .notImplemented)) s) :
    wpAny (model prog w) A.in1 (Builtin.«tuple.__eq__» ⟨[.ref l, .ref x], []⟩) (GQ.FinOf prog w A R) (fun e s' => R (.error e) s') s := by
  obtain ⟨oc, od, oda, osl⟩ := o
  cases hc
  have hI' := fun Q q => hI A.in1 Q (fun e s' => R (.error e) s') q
  obtain ⟨hp, g, d, tk, os⟩ := s
  wp_walk using PySem.AutoSeq1.wpAny_loadPart' hl, hI'
  exact h
theorem d_tuple_ne (hl : s.heap.get? l = some o) (hc : o.cls = .type "tuple") (hI : NotT prog w s x "tuple") (h : R (.ok (.ret .notImplemented)) s) :
    wpAny (model prog w) A.in1 (Builtin.«tuple.__ne__» ⟨[.ref l, .ref x], []⟩) (GQ.FinOf prog w A R) (fun e s' => R (.error e) s') s := by
  obtain ⟨oc, od, oda, osl⟩ := o
  cases hc
  have hI' := fun Q q => hI A.in1 Q (fun e s' => R (.error e) s') q
  obtain ⟨hp, g, d, tk, os⟩ := s
  wp_walk using PySem.AutoSeq1.wpAny_loadPart' hl, hI'
  exact h
theorem d_dict_eq (hl : s.heap.get? l = some o) (hc : o.cls = .type "dict") (hI : NotT prog w s x "dict") (h : R (.ok (.ret .notImplemented)) s) :
    wpAny (model prog w) A.in1 (Builtin.«dict.__eq__» ⟨[.ref l, .ref x], []⟩) (GQ.FinOf prog w A R) (fun e s' => R (.error e) s') s := by
  obtain ⟨oc, od, oda, osl⟩ := o
  cases hc
  have hI' := fun Q q => hI A.in1 Q (fun e s' => R (.error e) s') q
  obtain ⟨hp, g, d, tk, os⟩ := s
  wp_walk using PySem.AutoSeq1.wpAny_loadPart' hl, hI'
  exact h
theorem d_dict_ne (hl : s.heap.get? l = some o) (hc : o.cls = .type "dict") (hI : NotT prog w s x "dict") (h : R (.ok (.ret .notImplemented)) s) :
    wpAny (model prog w) A.in1 (Builtin.«dict.__ne__» ⟨[.ref l, .ref x], []⟩) (GQ.FinOf prog w A R) (fun e s' => R (.error e) s') s := by
  obtain ⟨oc, od, oda, osl⟩ := o
  cases hc
  have hI' := fun Q q => hI A.in1 Q (fun e s' => R (.error e) s') q
  obtain ⟨hp, g, d, tk, os⟩ := s
  wp_walk using PySem.AutoSeq1.wpAny_loadPart' hl, hI'
  exact h
end
def OddY (K : PySem.W.Frag) (H : Hp) (y : V) : Prop := y = .non ∨ (∃ b, y = .bl b) ∨ (∃ z, y = .str z) ∨ ∃ a, y = .ref a ∧ ((∃ xs, H a = some (.lst xs)) ∨ (∃ xs, SqT K H a xs) ∨ ∃ kvs, H a = some (.dK kvs))
structure OddV (prog : Program) (w : World) (K : PySem.W.Frag) (C : Addr) (p : Addr) (s : Shared) (v : Value) : Prop where
  ex : ∃ T ie i2, s.TypeIs v T ∧ (Value.type T != Value.ref C) = true ∧ PySem.W.subIn K (.ref C) (.type T) = some false ∧ PySem.W.subIn K (.type T) (.ref C) = some false ∧
    Slot T (cmpInfo .Eq).2.1 ie ∧ Slot T (cmpInfo .NotEq).2.1 i2 ∧
    (∀ (A : Around) (Q : Value → Shared → Prop) (E : Value → Shared → Prop), Q .notImplemented s → wpAny (model prog w) A (call (.builtin ie) [v, .ref p]) Q E s) ∧
    (∀ (A : Around) (Q : Value → Shared → Prop) (E : Value → Shared → Prop), Q .notImplemented s → wpAny (model prog w) A (call (.builtin i2) [v, .ref p]) Q E s)
  s1 : ∀ (A : Around) (Q : Bool → Shared → Prop) (E : Value → Shared → Prop), Q false s → wpAny (model prog w) A (isSame (.ref p) v) Q E s
  s2 : ∀ (A : Around) (Q : Bool → Shared → Prop) (E : Value → Shared → Prop), Q false s → wpAny (model prog w) A (isSame v (.ref p)) Q E s
theorem ne_tyref {T : String} {C : Addr} : (Value.type T != Value.ref C) = true := by
  rw [bne_iff_ne]
  intro q
  cases q
section
variable {prog : Program} {w : World} {s : Shared} {p l C dx : Addr} {ol : Obj}
theorem same_rl (n : p ≠ l) (hp : s.heap.get? p = some (PySem.W.instObj C dx)) (hl : s.heap.get? l = some ol) : ∀ (A : Around) (Q : Bool → Shared → Prop) (E : Value → Shared → Prop), Q false s → wpAny (model prog w) A (isSame (.ref p) (.ref l)) Q E s := fun A Q E h => by
  show wpAny _ A (if (p == l) = true then pure true else _) Q E s
  rw [if_neg (by simpa using n)]
  refine wpAny_bind (wpAny_load hp (wpAny_bind (wpAny_load hl ?_)))
  exact wpAny_pure h
theorem same_lr (n : p ≠ l) (hp : s.heap.get? p = some (PySem.W.instObj C dx)) (hl : s.heap.get? l = some ol) : ∀ (A : Around) (Q : Bool → Shared → Prop) (E : Value → Shared → Prop), Q false s → wpAny (model prog w) A (isSame (.ref l) (.ref p)) Q E s := fun A Q E h => by
  show wpAny _ A (if (l == p) = true then pure true else _) Q E s
  rw [if_neg (by simpa using Ne.symm n)]
  refine wpAny_bind (wpAny_load hl (wpAny_bind (wpAny_load hp ?_)))
  obtain ⟨oc, od, oda, osl⟩ := ol
  cases oc <;> first | exact wpAny_pure h | (split <;> first | exact wpAny_pure h | (rename_i h2; cases h2))
end
section
variable {X : Cx} {kap : Kp} {k c : Nat} {cond : List D → Bool}
theorem odd_of (o : OwnNI X.prog X.w X.K X.mg X.base kap k c cond) {pins : List (Addr × Obj)} {s : Shared} {σ : L2.St} {H : Hp} {p dx : Addr} {fs : List (Str × V)} {y : V} {v : Value} (I : Inv X pins σ H s) (hp : H p = some (.ins (kap c) dx fs)) (hy : OddY X.K H y) (ry : RelV y v) : OddV X.prog X.w X.K (kap c) p s v := by
  obtain ⟨mA, J, _⟩ := ins_get I.hok hp
  have hob := J.obj
  obtain ⟨od, J, _⟩ := J.look
  have up : ∀ T ∈ "NoneType" :: bCls, PySem.W.subIn X.K (.type T) (.ref (kap c)) = some false := fun T hT => sub_bo X.K (kap c) T hT
  rcases hy with rfl | ⟨b, rfl⟩ | ⟨z, rfl⟩ | ⟨a, rfl, hy⟩
  · cases ry
    exact ⟨⟨"NoneType", _, _, typeIs_none s, ne_tyref, o.nN, up _ (by decide), F.slot_NoneType_eq, F.slot_NoneType_ne,
      fun A Q E h => call_meets F.slot_NoneType_eq (typeIs_none s) F.entry_NoneType_eq (F.args_NoneType_eq_2 _ _) (d_none_eq p (kap c) dx) ⟨hob, h⟩,
      fun A Q E h => call_meets F.slot_NoneType_ne (typeIs_none s) F.entry_NoneType_ne (F.args_NoneType_ne_2 _ _) (d_none_ne p (kap c) dx) ⟨hob, h⟩⟩, fun A Q E h => wpAny_pure h, fun A Q E h => wpAny_pure h⟩
  · cases ry
    exact ⟨⟨"bool", _, _, PySem.typeIs_bool s b, ne_tyref, o.nb, up _ (by decide), F.slot_bool_eq, F.slot_bool_ne,
      fun A Q E h => call_meets F.slot_bool_eq (PySem.typeIs_bool s b) F.entry_int_eq (F.args_int_eq_2 _ _) (d_bool_eq b p (kap c) dx) ⟨hob, h⟩,
      fun A Q E h => call_meets F.slot_bool_ne (PySem.typeIs_bool s b) F.entry_int_ne (F.args_int_ne_2 _ _) (d_bool_ne b p (kap c) dx) ⟨hob, h⟩⟩, fun A Q E h => wpAny_pure h, fun A Q E h => wpAny_pure h⟩
  · obtain ⟨t, rfl⟩ := ry
    exact ⟨⟨"str", _, _, typeIs_str s z t, ne_tyref, o.nS, up _ (by decide), F.slot_str_eq, F.slot_str_ne,
      fun A Q E h => call_meets F.slot_str_eq (typeIs_str s z t) F.entry_str_eq (F.args_str_eq_2 _ _) (d_str_eq z t p (kap c) dx) ⟨hob, h⟩,
      fun A Q E h => call_meets F.slot_str_ne (typeIs_str s z t) F.entry_str_ne (F.args_str_ne_2 _ _) (d_str_ne z t p (kap c) dx) ⟨hob, h⟩⟩, fun A Q E h => wpAny_pure h, fun A Q E h => wpAny_pure h⟩
  · cases ry
    have key : ∃ T ie i2 ol, s.heap.get? a = some ol ∧ ol.cls = .type T ∧ PySem.W.subIn X.K (.ref (kap c)) (.type T) = some false ∧ T ∈ "NoneType" :: bCls ∧ Slot T (cmpInfo .Eq).2.1 ie ∧ Slot T (cmpInfo .NotEq).2.1 i2 ∧
        (∀ (A : Around) (Q : Value → Shared → Prop) (E : Value → Shared → Prop), Q .notImplemented s → wpAny (model X.prog X.w) A (call (.builtin ie) [.ref a, .ref p]) Q E s) ∧
        (∀ (A : Around) (Q : Value → Shared → Prop) (E : Value → Shared → Prop), Q .notImplemented s → wpAny (model X.prog X.w) A (call (.builtin i2) [.ref a, .ref p]) Q E s) := by
      rcases hy with ⟨xs, h⟩ | ⟨xs, h⟩ | ⟨kvs, h⟩
      · obtain ⟨its, _, ⟨ol, n, ho, hc, _⟩, _⟩ := I.list (SqL.of h)
        have nt := notT_of (prog := X.prog) (w := X.w) I.kIn J o.nl
        exact ⟨"list", _, _, ol, ho, hc, o.nl, by decide, F.slot_list_eq, F.slot_list_ne, fun A Q E q => GQ.call_here F.slot_list_eq ⟨ol, ho, hc⟩ F.entry_list_eq (F.args_list_eq_2 _ _) (d_list_eq ho hc nt q),
          fun A Q E q => GQ.call_here F.slot_list_ne ⟨ol, ho, hc⟩ F.entry_list_ne (F.args_list_ne_2 _ _) (d_list_ne ho hc nt q)⟩
      · obtain ⟨its, _, ⟨ol, ho, hc, _⟩, _⟩ := I.tuple h
        have nt := notT_of (prog := X.prog) (w := X.w) I.kIn J o.nt
        exact ⟨"tuple", _, _, ol, ho, hc, o.nt, by decide, F.slot_tuple_eq, F.slot_tuple_ne, fun A Q E q => GQ.call_here F.slot_tuple_eq ⟨ol, ho, hc⟩ F.entry_tuple_eq (F.args_tuple_eq_2 _ _) (d_tuple_eq ho hc nt q),
          fun A Q E q => GQ.call_here F.slot_tuple_ne ⟨ol, ho, hc⟩ F.entry_tuple_ne (F.args_tuple_ne_2 _ _) (d_tuple_ne ho hc nt q)⟩
      · obtain ⟨_, _, vs, _, ol, es, ep, ho, hx, _⟩ := dk_of I.hok h
        have nt := notT_of (prog := X.prog) (w := X.w) I.kIn J o.nd
        exact ⟨"dict", _, _, ol, ho, hx.1, o.nd, by decide, F.slot_dict_eq, F.slot_dict_ne, fun A Q E q => GQ.call_here F.slot_dict_eq ⟨ol, ho, hx.1⟩ F.entry_dict_eq (F.args_dict_eq_2 _ _) (d_dict_eq ho hx.1 nt q),
          fun A Q E q => GQ.call_here F.slot_dict_ne ⟨ol, ho, hx.1⟩ F.entry_dict_ne (F.args_dict_ne_2 _ _) (d_dict_ne ho hx.1 nt q)⟩
    obtain ⟨T, ie, i2, ol, ho, hc, hs, hT, se, sn, ce, cn⟩ := key
    have hpa : p ≠ a := fun z => by
      rw [← z, hob] at ho
      cases ho
      cases hc
    exact ⟨⟨T, ie, i2, ⟨ol, ho, hc⟩, ne_tyref, hs, up T hT, se, sn, ce, cn⟩, same_rl hpa hob ho, same_lr hpa hob ho⟩
theorem run_NI (o : OwnNI X.prog X.w X.K X.mg X.base kap k c cond) {A : Around} (hr : RoomG k A) (hA : A.frames = X.A.frames) {pins : List (Addr × Obj)} {s : Shared} {σ : L2.St} {H : Hp} {x y : V} {v u : Value} {Q : Hp → Prop} {E : Value → Shared → Prop} (I : Inv X pins σ H s) (rx : RelV x v) (ry : RelV y u) (h : spNI X.K kap cond [x, y] H Q) :
    wpAny (model X.prog X.w) A (call (.ref o.f) [v, u]) (fun r s' => r = .notImplemented ∧ ∃ H', Inv X pins σ H' s' ∧ Q H') E s := by
  have e0 : Env0 X.prog X.w X.K X.mg X.base A X.stack s H := by
    have e := I.env0
    exact ⟨by rw [hA]; exact e.frames, e.mod, e.bs, e.bsz, e.funs, e.frf, e.hok, e.bare⟩
  have hb := o.bi s [v, u] I.kIn (by rw [o.ok.len]; rfl)
  refine wpAny_call (codeAny_mono (o.ok.run A X.stack s H ⟨[v, u], []⟩ [v, u] [x, y] Q hr e0 hb (.cons rx (.cons ry .nil)) h) fun r s' hq => ?_)
  obtain ⟨rfl, hce⟩ := hq
  obtain ⟨z, H', I', rz, _, q⟩ := I.after hce
  exact ⟨rfl, H', I', q⟩
end
theorem try_own {prog : Program} {w : World} {A : Around} {E : Value → Shared → Prop} {s : Shared} {K : PySem.W.Frag} {x C f : Addr} {ox : Obj} {od : Option Obj} {name : Str} {b : Value} {R : Shared → Prop} (X : K.In s.heap) (I : PySem.W.InstAt s.heap x ox C od) (hs : PySem.W.findIn K (.ref C) name = some (some (.ref f))) (hf : PySem.W.isFn K (.ref f) = true)
    (h : wpAny (model prog w) A (call (.ref f) [.ref x, b]) (fun v s' => v = .notImplemented ∧ R s') E s) : wpAny (model prog w) A (tryCompare (.ref x) name b) (fun r s' => r = none ∧ R s') E s := by
  unfold tryCompare
  refine wpAny_bind (PySem.W.ifBound_K X I hs hf (wpAny_mono h (fun v s' hv => ?_) fun _ _ e => e))
  obtain ⟨rfl, q⟩ := hv
  exact wpAny_pure ⟨rfl, q⟩
theorem objNe_NI {prog : Program} {w : World} {A : Around} {E : Value → Shared → Prop} {s : Shared} {K : PySem.W.Frag} {x C f : Addr} {ox : Obj} {od : Option Obj} {b : Value} {Q : Fin → Shared → Prop} (X : K.In s.heap) (I : PySem.W.InstAt s.heap x ox C od) (hs : PySem.W.findIn K (.ref C) "__eq__" = some (some (.ref f))) (hf : PySem.W.isFn K (.ref f) = true) (hu : A.units < cLine)
    (hcall : wpAny (model prog w) A (call (.ref f) [.ref x, b]) (fun v s' => v = .notImplemented ∧ Q (.done (.ret .notImplemented)) s') E s) :
    wpAny (model prog w) A (Builtin.«object.__ne__» ⟨[.ref x, b], []⟩) Q E s := by
  unfold Builtin.«object.__ne__»
  repeat (first
    | with_reducible refine wpAny_cRoomFor hu ?_
    | (refine wpAny_bind (m := callSpecialIfBound? (.ref x) (Str.ofString "__eq__") [b])
        (PySem.W.ifBound_K X I hs hf (wpAny_mono hcall (fun r s' hr => by
          obtain ⟨rfl, hq⟩ := hr
          repeat (first | exact hq | exact wpAny_pure hq | wp_step)) fun _ _ e => e)))
    | wp_step)
theorem try_ownNe {prog : Program} {w : World} {A : Around} {E : Value → Shared → Prop} {s : Shared} {K : PySem.W.Frag} {x C f : Addr} {ox : Obj} {od : Option Obj} {b : Value} {R : Shared → Prop} (hu : A.units + 1 < cLine) (X : K.In s.heap) (I : PySem.W.InstAt s.heap x ox C od) (hm : PySem.W.mroIn K C (.type "object") = some true) (hne : PySem.W.findIn K (.ref C) "__ne__" = some (some (.builtin "object.__ne__"))) (hs : PySem.W.findIn K (.ref C) "__eq__" = some (some (.ref f))) (hf : PySem.W.isFn K (.ref f) = true)
    (h : wpAny (model prog w) A.in1 (call (.ref f) [.ref x, b]) (fun v s' => v = .notImplemented ∧ R s') E s) : wpAny (model prog w) A (tryCompare (.ref x) "__ne__" b) (fun r s' => r = none ∧ R s') E s := by
  unfold tryCompare
  refine wpAny_bind (ifBound_objNe X I hne (wpAny_call (codeAny_call_builtin F.cmp_object.ne.plain F.cmpEntry_ne (PySem.W.check_slot F.cmpKind_ne F.cmpSplit_ne (I.type.andThen (PySem.W.looks_mroIn X hm)) (F.cmpArgs_ne _ _) ?_))))
  refine objNe_NI X I hs hf (by show A.in1.units < cLine; exact Nat.lt_of_le_of_lt (by first | exact Nat.le_refl _ | simp [Around.in1]) hu) (wpAny_mono h (fun r s' hr => ?_) fun _ _ e => e)
  obtain ⟨rfl, q⟩ := hr
  exact ⟨rfl, wpAny_pure ⟨rfl, q⟩⟩
section
variable {X : Cx} {kap : Kp} {k c : Nat} {cond : List D → Bool} {r : R2}
def rEqNI (K : PySem.W.Frag) (kap : Kp) (c : Nat) (cond : List D → Bool) (b : Bool) (r : R2) : R2 := fun x y H Q =>
  (∃ p dx fs, x = .ref p ∧ H p = some (.ins (kap c) dx fs) ∧ OddY K H y ∧ spNI K kap cond [x, y] H fun H' => H' p = some (.ins (kap c) dx fs) ∧ OddY K H' y ∧ Q (.bl b) H') ∨
  (b = false ∧ ∃ p dx fs, y = .ref p ∧ H p = some (.ins (kap c) dx fs) ∧ OddY K H x ∧ spNI K kap cond [y, x] H fun H' => H' p = some (.ins (kap c) dx fs) ∧ OddY K H' x ∧ Q (.bl b) H') ∨ r x y H Q
theorem op_eqNI (o : OwnNI X.prog X.w X.K X.mg X.base kap k c cond) (ho : OpR X (compareOp .Eq) r) (hr : RoomG k X.A) : OpR X (compareOp .Eq) (rEqNI X.K kap c cond false r) := by
  intro pins s σ H x y v u Q I rx ry h
  have hu : X.A.units < cLine := by have := hr.un; omega
  rcases h with ⟨p, dx, fs, rfl, hp, hy, hsp⟩ | ⟨_, p, dx, fs, rfl, hp, hx, hsp⟩ | q
  · cases rx
    obtain ⟨mA, J, _⟩ := ins_get I.hok hp
    obtain ⟨od, J, _⟩ := J.look
    obtain ⟨T, ie, i2, ty, hne, hs, hs2, se, sn, ce, cn⟩ := (odd_of o I hp hy ry).ex
    show wpAny _ _ (richCompare .Eq (.ref p) u) _ _ _
    unfold richCompare
    simp only [oneThing_ref]
    refine wpAny_holding (wpAny_bind (wpAny_cRoomFor hu ?_))
    refine wpAny_bind (J.type.here (wpAny_bind (wpAny_typeOf ty ?_)))
    have hne' : (Value.ref (kap c) != Value.type T) = true := by
      rw [bne_iff_ne]
      intro q
      cases q
    simp only [hne', if_true]
    refine wpAny_bind ((PySem.W.looks_subIn I.kIn hs2).here ?_)
    simp only [Bool.false_eq_true, if_false, Bool.not_false, if_true]
    refine wpAny_bind (wpAny_mono (try_own I.kIn J o.hs o.hf (run_NI o hr rfl I (x := .ref p) (v := .ref p) rfl ry hsp)) (fun z s2 hz => ?_) fun _ _ e => e)
    obtain ⟨rfl, H2, I2, hp2, hy2, q⟩ := hz
    have O2 := odd_of o I2 hp2 hy2 ry
    obtain ⟨T', ie', i2', ty', _, _, _, se', sn', ce', cn'⟩ := O2.ex
    refine wpAny_bind (wpAny_tryCompare_declines ty' se' (ce' _ _ _ ⟨rfl, ?_⟩))
    refine wpAny_bind (wpAny_rule (wpAny_bind (O2.s1 _ _ _ ?_)))
    exact wpAny_pure ⟨.bl false, H2, I2, rfl, q⟩
  · cases ry
    obtain ⟨mA, J, _⟩ := ins_get I.hok hp
    obtain ⟨od, J, _⟩ := J.look
    have O1 := odd_of o I hp hx rx
    obtain ⟨T, ie, i2, ty, hne, hs, hs2, se, sn, ce, cn⟩ := O1.ex
    show wpAny _ _ (richCompare .Eq v (.ref p)) _ _ _
    unfold richCompare
    simp only [ty.oneThing_none]
    refine wpAny_holding (wpAny_bind (wpAny_cRoomFor hu ?_))
    refine wpAny_bind (wpAny_typeOf ty (wpAny_bind (J.type.here ?_)))
    simp only [hne, if_true]
    refine wpAny_bind ((PySem.W.looks_subIn I.kIn hs).here ?_)
    simp only [Bool.false_eq_true, if_false, Bool.not_false, if_true]
    refine wpAny_bind (wpAny_tryCompare_declines ty se (ce _ _ _ ⟨rfl, ?_⟩))
    refine wpAny_bind (wpAny_mono (try_own I.kIn J o.hs o.hf (run_NI o hr rfl I (x := .ref p) (v := .ref p) rfl rx hsp)) (fun z s2 hz => ?_) fun _ _ e => e)
    obtain ⟨rfl, H2, I2, hp2, hx2, q⟩ := hz
    have O2 := odd_of o I2 hp2 hx2 rx
    refine wpAny_bind (wpAny_rule (wpAny_bind (O2.s2 _ _ _ ?_)))
    exact wpAny_pure ⟨.bl false, H2, I2, rfl, q⟩
  · exact ho pins s σ H x y v u Q I rx ry q
theorem op_neNI (o : OwnNI X.prog X.w X.K X.mg X.base kap k c cond) (ho : OpR X (compareOp .NotEq) r) (hr : RoomG (k + 1) X.A) : OpR X (compareOp .NotEq) (rEqNI X.K kap c cond true r) := by
  intro pins s σ H x y v u Q I rx ry h
  have hu : X.A.units + 1 < cLine := by have := hr.un; omega
  rcases h with ⟨p, dx, fs, rfl, hp, hy, hsp⟩ | ⟨e, _⟩ | q
  · cases rx
    obtain ⟨mA, J, _⟩ := ins_get I.hok hp
    obtain ⟨od, J, _⟩ := J.look
    obtain ⟨T, ie, i2, ty, hne, hs, hs2, se, sn, ce, cn⟩ := (odd_of o I hp hy ry).ex
    show wpAny _ _ (richCompare .NotEq (.ref p) u) _ _ _
    unfold richCompare
    simp only [oneThing_ref]
    refine wpAny_holding (wpAny_bind (wpAny_cRoomFor (by omega) ?_))
    refine wpAny_bind (J.type.here (wpAny_bind (wpAny_typeOf ty ?_)))
    have hne' : (Value.ref (kap c) != Value.type T) = true := by
      rw [bne_iff_ne]
      intro q
      cases q
    simp only [hne', if_true]
    refine wpAny_bind ((PySem.W.looks_subIn I.kIn hs2).here ?_)
    simp only [Bool.false_eq_true, if_false, Bool.not_false, if_true]
    refine wpAny_bind (wpAny_mono (try_ownNe hu I.kIn J o.hm o.hne o.hs o.hf (run_NI o hr.in1 rfl I (x := .ref p) (v := .ref p) rfl ry hsp)) (fun z s2 hz => ?_) fun _ _ e => e)
    obtain ⟨rfl, H2, I2, hp2, hy2, q⟩ := hz
    have O2 := odd_of o I2 hp2 hy2 ry
    obtain ⟨T', ie', i2', ty', _, _, _, se', sn', ce', cn'⟩ := O2.ex
    refine wpAny_bind (wpAny_tryCompare_declines ty' sn' (cn' _ _ _ ⟨rfl, ?_⟩))
    refine wpAny_bind (wpAny_rule (wpAny_bind (O2.s1 _ _ _ ?_)))
    exact wpAny_pure ⟨.bl true, H2, I2, rfl, q⟩
  · cases e
  · exact ho pins s σ H x y v u Q I rx ry q
def oddD : D → Bool
  | .non => true
  | .bl _ => true
  | .str _ => true
  | .lst _ => true
  | .tup _ => true
  | .dk _ => true
  | _ => false
def fEqNI (c : Nat) (cond : List D → Bool) (f : D → D → Option D) (a b : D) : Option D := match a, b with
  | .obj c1 fs, b => if oddD b = true then (if c1 = c ∧ cond [.obj c1 fs, b] = true then some (.bl false) else none) else f (.obj c1 fs) b
  | a, .obj c2 gs => if oddD a = true then (if c2 = c ∧ cond [.obj c2 gs, a] = true then some (.bl false) else none) else f a (.obj c2 gs)
  | a, b => f a b
def fNeNI (c : Nat) (cond : List D → Bool) (f : D → D → Option D) (a b : D) : Option D := match a with
  | .obj c1 fs => if oddD b = true then (if c1 = c ∧ cond [.obj c1 fs, b] = true then some (.bl true) else none) else f (.obj c1 fs) b
  | a => f a b
section
variable {K : PySem.W.Frag} {f : D → D → Option D}
theorem oddY_of {H : Hp} {y : V} {d : D} (r : Rep K kap H y d) (h : oddD d = true) : OddY K H y := by
  cases r with
  | non => exact .inl rfl
  | bl b => exact .inr (.inl ⟨b, rfl⟩)
  | str z => exact .inr (.inr (.inl ⟨z, rfl⟩))
  | lst h1 _ => exact .inr (.inr (.inr ⟨_, rfl, .inl ⟨_, h1⟩⟩))
  | tup h1 _ => exact .inr (.inr (.inr ⟨_, rfl, .inr (.inl ⟨_, h1⟩)⟩))
  | dk h1 _ _ => exact .inr (.inr (.inr ⟨_, rfl, .inr (.inr ⟨_, h1⟩)⟩))
  | _ => cases h
theorem run_ni {F H : Hp} {x y : V} {fs : List (Str × D)} {b : D} {R : Hp → Prop} (sub : Same F H) (nt : NX kap F H) (rx : RB K kap F H x (.obj c fs)) (ry : RB K kap F H y b) (hb : oddD b = true) (hc : cond [.obj c fs, b] = true) (q : ∀ H', New kap.tab F H F H' → Same F H' → R H') :
    ∃ p dx vs, x = .ref p ∧ H p = some (.ins (kap c) dx vs) ∧ OddY K H y ∧ spNI K kap cond [x, y] H fun H' => H' p = some (.ins (kap c) dx vs) ∧ OddY K H' y ∧ R H' := by
  obtain ⟨p, dx, vs, rfl, h1, n1, r1⟩ := rx.obj sub
  have hy := oddY_of (ry.rep sub) hb
  have A : ArgR K kap (nT H) H none [V.ref p, y] [.obj c fs, b] none := ⟨rfl, fun i d hi _ => by
      match i, hi with
      | 0, hi => cases hi; exact ⟨_, rfl, (rx.rep sub).nT⟩
      | 1, hi => cases hi; exact ⟨_, rfl, (ry.rep sub).nT⟩, (fun k d z _ => by cases z), (fun z => absurd rfl z)⟩
  refine ⟨p, dx, vs, rfl, h1, hy, nT H, [.obj c fs, b], rfl, nt.st, A, hc, fun F' H' f => ?_⟩
  have kp : ∀ a o, H a = some o → (∀ ps, o ≠ .tbl ps) → H' a = some o := fun a o h t => f.keep a o h t (by simp)
  refine ⟨kp p _ h1 (fun ps z => by cases z), ?_, q H' (f.borrow sub nt).1 (f.borrow sub nt).2⟩
  rcases hy with h | h | h | ⟨a, rfl, h⟩
  · exact .inl h
  · exact .inr (.inl h)
  · exact .inr (.inr (.inl h))
  · refine .inr (.inr (.inr ⟨a, rfl, ?_⟩))
    rcases h with ⟨xs, h⟩ | ⟨xs, h⟩ | ⟨kvs, h⟩
    · exact .inl ⟨xs, kp _ _ h (fun ps z => by cases z)⟩
    · refine .inr (.inl ⟨xs, ?_⟩)
      rcases h with (h | ⟨o, h⟩) | h
      · exact .inl (.inl (kp _ _ h (fun ps z => by cases z)))
      · exact .inl (.inr ⟨o, kp _ _ h (fun ps z => by cases z)⟩)
      · exact .inr h
    · exact .inr (.inr ⟨kvs, kp _ _ h (fun ps z => by cases z)⟩)
theorem sp_eqNI (s : SP2 K kap r f) : SP2 K kap (rEqNI K kap c cond false r) (fEqNI c cond f) := by
  intro F H x y a b z Q sub nt ra rb e q
  unfold fEqNI at e
  split at e
  · split at e
    · rename_i hb
      split at e
      · rename_i hc
        obtain ⟨h1, h2⟩ := hc
        subst h1
        cases e
        obtain ⟨p, dx, vs, hx, h3, h4, h5⟩ := run_ni (R := fun H' => Q (.bl false) H') sub nt ra rb hb h2 fun H' n s2 => q _ F H' n s2 (.bl _)
        exact .inl ⟨p, dx, vs, hx, h3, h4, h5⟩
      · cases e
    · exact .inr (.inr (s F H x y _ _ z Q sub nt ra rb e q))
  · split at e
    · rename_i hb
      split at e
      · rename_i hc
        obtain ⟨h1, h2⟩ := hc
        subst h1
        cases e
        obtain ⟨p, dx, vs, hx, h3, h4, h5⟩ := run_ni (R := fun H' => Q (.bl false) H') sub nt rb ra hb h2 fun H' n s2 => q _ F H' n s2 (.bl _)
        exact .inr (.inl ⟨rfl, p, dx, vs, hx, h3, h4, h5⟩)
      · cases e
    · exact .inr (.inr (s F H x y _ _ z Q sub nt ra rb e q))
  · exact .inr (.inr (s F H x y _ _ z Q sub nt ra rb e q))
theorem sp_neNI (s : SP2 K kap r f) : SP2 K kap (rEqNI K kap c cond true r) (fNeNI c cond f) := by
  intro F H x y a b z Q sub nt ra rb e q
  unfold fNeNI at e
  split at e
  · split at e
    · rename_i hb
      split at e
      · rename_i hc
        obtain ⟨h1, h2⟩ := hc
        subst h1
        cases e
        obtain ⟨p, dx, vs, hx, h3, h4, h5⟩ := run_ni (R := fun H' => Q (.bl true) H') sub nt ra rb hb h2 fun H' n s2 => q _ F H' n s2 (.bl _)
        exact .inl ⟨p, dx, vs, hx, h3, h4, h5⟩
      · cases e
    · exact .inr (.inr (s F H x y _ _ z Q sub nt ra rb e q))
  · exact .inr (.inr (s F H x y _ _ z Q sub nt ra rb e q))
end
end
structure OwnS (P : Program) (w : World) (K : PySem.W.Frag) (mg : Str → Option Value) (base : Heap) (kap : Kp) (k c : Nat) (m : List D → Fo) where
  g : DG P w K mg base kap k 1 none m []
  hs : PySem.W.findIn K (.ref (kap c)) "__str__" = some (some (.ref g.f))
  hf : PySem.W.isFn K (.ref g.f) = true
def strOk2 : Fo → Option D
  | .ret (.str z) none => some (.str z)
  | _ => none
def fStrO (c : Nat) (m : List D → Fo) : List D → Option D
  | [.obj c' fs] => if c' = c then strOk2 (m [.obj c' fs]) else none
  | _ => none
def rStrO (K : PySem.W.Frag) (kap : Kp) (c : Nat) (m : List D → Fo) : List V → Hp → VK → Prop := fun xs H Q => ∃ a dx fs, xs = [V.ref a] ∧ H a = some (.ins (kap c) dx fs) ∧ spD K kap 1 none m [V.ref a] H (fun v H' => ∃ z, v = .str z ∧ Q (.str z) H') (fun _ _ _ => False)
section
variable {X : Cx} {kap : Kp} {k c : Nat} {m : List D → Fo}
theorem call_strO (hr : RoomG k X.A.in1.in1) (o : OwnS X.prog X.w X.K X.mg X.base kap k c m) : CallR X (.type "str") (rStrO X.K kap c m) := by
  intro pins s σ H xs us Q I r h
  obtain ⟨a, dx, fs, rfl, ha, hsp⟩ := h
  obtain ⟨u, rfl, rx⟩ := vals1 r
  cases (show u = Value.ref a from rx)
  obtain ⟨mA, J, _⟩ := ins_get I.hok ha
  obtain ⟨od, J, _⟩ := J.look
  have hl : o.g.dvs = [] := by
    have := o.g.rs (fun _ => none)
    cases h : o.g.dvs with
    | nil => rfl
    | cons v r => rw [h] at this; cases this
  have r2 : Vals ([V.ref a] ++ o.g.dvs) ([Value.ref a] ++ o.g.ds) := Vals.append (.cons rfl .nil) o.g.vs
  have e0 : Env0 X.prog X.w X.K X.mg X.base X.A.in1.in1 X.stack s H := by
    have e := I.env0
    exact ⟨e.frames, e.mod, e.bs, e.bsz, e.funs, e.frf, e.hok, e.bare⟩
  have hsp2 : spD X.K kap 1 none m ([V.ref a] ++ o.g.dvs) H (fun v H' => ∃ z, v = .str z ∧ Q (.str z) H') (fun _ _ _ => False) := by rw [hl]; exact hsp
  refine PySem.W.kso_call (by have := hr.un; omega) I.kIn J o.hs o.hf ?_
  refine wpAny_call (codeAny_mono (o.g.ok.run X.A.in1.in1 X.stack s H ⟨[.ref a], []⟩ ([Value.ref a] ++ o.g.ds) ([V.ref a] ++ o.g.dvs) _ _ hr e0 (o.g.bi s [.ref a] I.kIn (by rw [← r2.length]; exact o.g.ok.len _ _ _ _ hsp2)) r2 hsp2) fun r s' hq => ?_)
  cases r with
  | error e =>
    obtain ⟨_, _, _, _, _, _, _, _, _, _, _, _, hf⟩ := hq
    exact hf.elim
  | ok fl => cases fl with
    | ret w =>
      obtain ⟨z, H', I', rz, y, rfl, q⟩ := I.after hq
      obtain ⟨t, rfl⟩ := rz
      exact ⟨.str y, H', I', ⟨t, rfl⟩, q⟩
    | next => exact hq.elim
    | brk => exact hq.elim
    | cont => exact hq.elim
theorem sp_strO {K : PySem.W.Frag} : SPN K kap (rStrO K kap c m) (fStrO c m) := by
  intro F H xs as z Q sub nt ra e q
  unfold fStrO at e
  split at e
  · rename_i c' fs
    split at e
    · rename_i hc
      subst hc
      obtain ⟨x, rfl, r⟩ := one_of ra
      obtain ⟨p, dx, vs, rfl, h1, n1, r1⟩ := r.obj sub
      refine ⟨p, dx, vs, rfl, h1, ?_⟩
      have A : ArgR K kap (nT H) H none [V.ref p] [.obj c' fs] none := ⟨rfl, fun i d hi _ => by
          match i, hi with
          | 0, hi => cases hi; exact ⟨_, rfl, (r.rep sub).nT⟩, (fun k d z _ => by cases z), (fun z => absurd rfl z)⟩
      refine ⟨nT H, [.obj c' fs], none, rfl, nt.st, A, ?_⟩
      cases eo : m [.obj c' fs] with
      | ret d q' =>
        rw [eo] at e
        cases q' with
        | none =>
          cases d with
          | str y =>
            have e : some (D.str y) = some z := e
            cases e
            exact fun v F' H' f r => by
              cases r
              exact ⟨y, rfl, q _ F H' (f.borrow sub nt).1 (f.borrow sub nt).2 (.str y)⟩
          | _ => cases e
        | some _ => cases d <;> cases e
      | retF d q => rw [eo] at e; cases e
      | ex c fs q => rw [eo] at e; cases e
      | bad => rw [eo] at e; cases e
    · cases e
  · cases e
end
end DL
namespace DL
open L2
section
variable {α β γ : Type} {a : α} {de : DEnv} {c : Nat} {fs : List (PySem.Str × D)} {f : α → DEnv → Rs β} {g : α → DEnv → Ot} {h : DEnv → Ot} {d d' : D}
@[simp] theorem ps1 : (Rs.ok a de).bind f = f a de := Eq.trans rfl rfl
@[simp] theorem ps2 : (Rs.ex (α := α) c fs de).bind f = .ex c fs de := Eq.trans rfl rfl
@[simp] theorem ps3 : (Rs.bad (α := α)).bind f = .bad := Eq.trans rfl rfl
@[simp] theorem ps4 : (Rs.ok a de).out g = g a de := Eq.trans rfl rfl
@[simp] theorem ps5 : (Rs.ex (α := α) c fs de).out g = .ex c fs de := Eq.trans rfl rfl
@[simp] theorem ps6 : (Rs.bad (α := α)).out g = .bad := Eq.trans rfl rfl
@[simp] theorem ps7 : (Ot.nx de).andThen h = h de := Eq.trans rfl rfl
@[simp] theorem ps8 : (Ot.ret d de).andThen h = .ret d de := Eq.trans rfl rfl
@[simp] theorem ps9 : (Ot.retF d de).andThen h = .retF d de := Eq.trans rfl rfl
@[simp] theorem ps10 : (Ot.brk de).andThen h = .brk de := Eq.trans rfl rfl
@[simp] theorem ps11 : (Ot.ct de).andThen h = .ct de := Eq.trans rfl rfl
@[simp] theorem ps12 : (Ot.ex c fs de).andThen h = .ex c fs de := Eq.trans rfl rfl
@[simp] theorem ps13 : Ot.bad.andThen h = .bad := Eq.trans rfl rfl
@[simp] theorem ps14 : ofO (some a) de = .ok a de := Eq.trans rfl rfl
@[simp] theorem ps15 : ofO (none : Option α) de = .bad := Eq.trans rfl rfl
end
def vVarA (k : Nat) (de : DEnv) : Option Sl → Rs D
  | some (.va d) => .ok d de
  | some (.ow d) => .ok d (de.set k (.va d))
  | some (.cn d) => .ok d de
  | _ => .bad
def slotRunA (k : Nat) (de : DEnv) : Option D → Rs (DEnv → Option D)
  | some _ => .ok (slotAt k) de
  | none => .bad
def andA (ev2 : DEnv → Rs D) (d : D) (de : DEnv) : Rs D := match d with | .bl true => ev2 de | .bl false => .ok (.bl false) de | _ => .bad
def orA (ev2 : DEnv → Rs D) (d : D) (de : DEnv) : Rs D := match d with | .bl true => .ok (.bl true) de | .bl false => ev2 de | _ => .bad
def putLB (k : Nat) (v : D) (s : Sl) (xs : List D) (de : DEnv) : Option Nat → Ot
  | some j => .nx (de.set k (s.same (.lst (xs.set j v))))
  | none => .bad
def putLA (k : Nat) (v x : D) (de : DEnv) : Option (Sl × D) → Ot
  | some (s, .lst xs) => putLB k v s xs de ((asI x).bind fun k => ixN xs.length k)
  | _ => .bad
def fldA (k : Nat) (cl : List Nat) (nm : PySem.Str) (d : D) (de : DEnv) : Option (Sl × D) → Ot
  | some (s, .obj c fs) => if cl.contains c = true ∧ fs.length < 1000 then .nx (de.set k (s.same (.obj c (putD nm d fs)))) else .bad
  | _ => .bad
def cSlotA (k : Nat) (ec : DEnv → Rs (List CA)) (de : DEnv) : Option D → Rs (List CA)
  | some _ => (ec de).bind fun cs de2 => .ok (.s k :: cs) de2
  | none => .bad
def callA (n : Nat) (mu : Option Nat) (md : List D → Fo) (dcs : List D) (cs : List CA) (de : DEnv) : Option (List D) → Rs D
  | some ds => if ds.length + dcs.length = n ∧ okS mu (argS mu cs) = true then callE (argS mu cs) de (md (ds ++ dcs)) else .bad
  | none => .bad
def callFA (n : Nat) (mu : Option Nat) (md : List D → Fo) (dcs : List D) (cs : List CA) (de : DEnv) : Option (List D) → Rs D
  | some ds => if ds.length + dcs.length = n ∧ okS mu (argS mu cs) = true then callF (argS mu cs) de (md (ds ++ dcs)) else .bad
  | none => .bad
def putA (k : Nat) (d : D) (de : DEnv) : Option Sl → DEnv
  | some s => de.set k (s.same d)
  | none => de
def lastA : Option Sl → Option (Option D)
  | some (.pn d) => some (some d)
  | _ => none
def rngA (d : D) (de : DEnv) : Rs (List D) := match d with
  | .int j => if -(2 ^ 62) ≤ j ∧ j < 2 ^ 62 then .ok (rangeD 0 j.toNat) de else .bad
  | _ => .bad
def mkA (de : DEnv) : Fo → Rs D
  | .ret .non (some d') => .ok d' de
  | .ex c' fs (some _) => .ex c' fs de
  | _ => .bad
def loopB (g : D → DEnv → Option DEnv) (tb : DEnv → Ot) (r : List D) : Ot → Ot
  | .nx de2 => vLoop g tb r de2
  | .ct de2 => vLoop g tb r de2
  | .brk de2 => .nx de2
  | o => o
def loopA (g : D → DEnv → Option DEnv) (tb : DEnv → Ot) (r : List D) : Option DEnv → Ot
  | some de1 => loopB g tb r (tb de1)
  | none => .bad
def finA (f : Option D → Fo) : Option (Option D) → Fo
  | some q => f q
  | none => .bad
section
variable {de : DEnv} {d d1 d2 : D} {i j : Int} {k m n : Nat} {e1 e2 : DEnv → Ot} {ev ev1 ev2 : DEnv → Rs D} {eb eb1 eb2 : DEnv → Rs Bool} {ea : DEnv → Rs (List D)} {ec : DEnv → Rs (List CA)} {o oa ob oc : Op} {os : List Op} {f g : D → D → Option D} {f1 : D → Option D} {fN : List D → Option D} {xs ys : List D} {x y : PySem.Str} {b b1 b2 : Bool} {c : Nat} {fs : List (PySem.Str × D)} {cl : List Nat} {nm : PySem.Str} {mu : Option Nat} {md : List D → Fo} {dcs : List D} {cs : List CA} {q : Option D} {s : Sl}
@[simp] theorem ps16 : vSeq e1 e2 de = (e1 de).andThen e2 := Eq.trans rfl rfl
@[simp] theorem ps17 : vSet k ev de = (ev de).out fun d de1 => .nx (de1.set k (.va d)) := Eq.trans rfl rfl
@[simp] theorem ps18 : vSetF k ev de = (ev de).out fun d de1 => .nx (de1.set k (.ow d)) := Eq.trans rfl rfl
@[simp] theorem ps20 : vIf eb e1 e2 de = (eb de).out fun b de1 => if b = true then e1 de1 else e2 de1 := Eq.trans rfl rfl
@[simp] theorem ps21 : vRet ev de = (ev de).out fun d de1 => .ret d de1 := Eq.trans rfl rfl
@[simp] theorem ps22 : vRetF ev de = (ev de).out fun d de1 => .retF d de1 := Eq.trans rfl rfl
@[simp] theorem ps24 : vSkip de = .nx de := Eq.trans rfl rfl
@[simp] theorem ps25 : vBrk de = .brk de := Eq.trans rfl rfl
@[simp] theorem ps27 : vC d de = .ok d de := Eq.trans rfl rfl
@[simp] theorem ps28 : vVar k de = vVarA k de de[k]? := by unfold vVar; cases de[k]? with | none => rfl | some s => cases s <;> rfl
@[simp] theorem ps29 : vVarA k de (some (.va d)) = .ok d de := Eq.trans rfl rfl
@[simp] theorem ps30 : vVarA k de (some (.ow d)) = .ok d (de.set k (.va d)) := Eq.trans rfl rfl
@[simp] theorem ps33 : (Op.e ev).run de = (ev de).bind fun d de1 => .ok (fun _ => some d) de1 := Eq.trans rfl rfl
@[simp] theorem ps34 : (Op.s k).run de = slotRunA k de (slotAt k de) := by show slotRun k de = _; unfold slotRun; cases slotAt k de <;> rfl
@[simp] theorem ps35 : slotRunA k de (some d) = .ok (slotAt k) de := Eq.trans rfl rfl
@[simp] theorem ps36 : slotAt k de = (de[k]?).bind Sl.dat := Eq.trans rfl rfl
@[simp] theorem ps37 : (Sl.va d).dat = some d := Eq.trans rfl rfl
@[simp] theorem ps38 : (Sl.ow d).dat = some d := Eq.trans rfl rfl
@[simp] theorem ps39 : (Sl.pn d).dat = some d := Eq.trans rfl rfl
@[simp] theorem ps40 : vO2 f oa ob de = (oa.run de).bind fun fa de1 => (ob.run de1).bind fun fb de2 => ofO ((fa de2).bind fun x => (fb de2).bind fun y => f x y) de2 := Eq.trans rfl rfl
@[simp] theorem ps41 : vO1 f1 oa de = (oa.run de).bind fun fa de1 => ofO ((fa de1).bind f1) de1 := Eq.trans rfl rfl
@[simp] theorem ps42 : vON fN os de = (runs os de).bind fun fs de1 => ofO ((reads fs de1).bind fN) de1 := Eq.trans rfl rfl
@[simp] theorem ps43 : runs [] de = .ok [] de := Eq.trans rfl rfl
@[simp] theorem ps44 : runs (o :: os) de = (o.run de).bind fun f de1 => (runs os de1).bind fun fs de2 => .ok (f :: fs) de2 := Eq.trans rfl rfl
@[simp] theorem ps45 : reads [] de = some [] := Eq.trans rfl rfl
@[simp] theorem ps46 {f : DEnv → Option D} {fs : List (DEnv → Option D)} : reads (f :: fs) de = (f de).bind fun d => (reads fs de).map fun ds => d :: ds := Eq.trans rfl rfl
@[simp] theorem ps47 : vB ev de = (ev de).bind fun d de1 => ofO (asB d) de1 := Eq.trans rfl rfl
@[simp] theorem ps48 : asB (.bl b) = some b := Eq.trans rfl rfl
@[simp] theorem ps49 : vNot eb de = (eb de).bind fun b de1 => .ok (!b) de1 := Eq.trans rfl rfl
@[simp] theorem ps51 : vOr eb1 eb2 de = (eb1 de).bind fun b de1 => if b = true then .ok true de1 else eb2 de1 := Eq.trans rfl rfl
@[simp] theorem ps52 : vTru oa de = (oa.run de).bind fun fa de1 => ofO ((fa de1).bind truD) de1 := Eq.trans rfl rfl
@[simp] theorem ps53 : truD (.bl b) = some b := Eq.trans rfl rfl
@[simp] theorem ps54 : vAndV ev1 ev2 de = (ev1 de).bind (andA ev2) := Eq.trans rfl rfl
@[simp] theorem ps55 : andA ev2 (.bl true) de = ev2 de := Eq.trans rfl rfl
@[simp] theorem ps56 : andA ev2 (.bl false) de = .ok (.bl false) de := Eq.trans rfl rfl
@[simp] theorem ps57 : vOrV ev1 ev2 de = (ev1 de).bind (orA ev2) := Eq.trans rfl rfl
@[simp] theorem ps58 : orA ev2 (.bl true) de = .ok (.bl true) de := Eq.trans rfl rfl
@[simp] theorem ps59 : orA ev2 (.bl false) de = ev2 de := Eq.trans rfl rfl
@[simp] theorem ps60 : vNotV ev1 de = (ev1 de).bind fun d de1 => ofO (fNotV d) de1 := Eq.trans rfl rfl
@[simp] theorem ps61 : fNotV (.bl b) = some (.bl (!b)) := Eq.trans rfl rfl
@[simp] theorem ps64 : vNil de = .ok [] de := Eq.trans rfl rfl
@[simp] theorem ps65 : vCons ev ea de = (ev de).bind fun d de1 => (ea de1).bind fun ds de2 => .ok (d :: ds) de2 := Eq.trans rfl rfl
@[simp] theorem ps66 : vTup ea de = (ea de).bind fun ds de1 => if ds.length ≤ 16777216 then .ok (.tup ds) de1 else .bad := Eq.trans rfl rfl
@[simp] theorem ps67 : vLst ea de = (ea de).bind fun ds de1 => if ds.length ≤ 16777216 then .ok (.lst ds) de1 else .bad := Eq.trans rfl rfl
@[simp] theorem ps68 : fSub (.int i) (.int j) = some (.int (i - j)) := Eq.trans rfl rfl
@[simp] theorem ps69 (h : cMul i j = true) : fMul (.int i) (.int j) = some (.int (i * j)) := by show (if cMul i j = true then _ else _) = _; rw [if_pos h]
@[simp] theorem ps70 (h : cDiv i j = true) : fFdiv (.int i) (.int j) = some (.int (i / j)) := by show (if cDiv i j = true then _ else _) = _; rw [if_pos h]
@[simp] theorem ps71 (h : cMod i j = true) : fMod (.int i) (.int j) = some (.int (i % j)) := by show (if cMod i j = true then _ else _) = _; rw [if_pos h]
@[simp] theorem ps72 (h : cPow i j = true) : fPow (.int i) (.int j) = some (.int (i ^ j.toNat)) := by show (if cPow i j = true then _ else _) = _; rw [if_pos h]
@[simp] theorem ps73 : fLt (.int i) (.int j) = some (.bl (decide (i < j))) := Eq.trans rfl rfl
@[simp] theorem ps74 : fLe (.int i) (.int j) = some (.bl (decide (i ≤ j))) := Eq.trans rfl rfl
@[simp] theorem ps75 : fGt (.int i) (.int j) = some (.bl (decide (j < i))) := Eq.trans rfl rfl
@[simp] theorem ps76 : fGe (.int i) (.int j) = some (.bl (decide (j ≤ i))) := Eq.trans rfl rfl
@[simp] theorem ps77 : fNeg (.int i) = some (.int (-i)) := Eq.trans rfl rfl
@[simp] theorem ps78 : fAdd (.int i) (.int j) = some (.int (i + j)) := Eq.trans rfl rfl
@[simp] theorem ps79 : fAdd (.lst xs) (.lst ys) = if xs.length + ys.length ≤ 16777216 then some (.lst (xs ++ ys)) else none := Eq.trans rfl rfl
@[simp] theorem ps80 : fAdd (.tup xs) (.tup ys) = if xs.length + ys.length ≤ 16777216 then some (.tup (xs ++ ys)) else none := Eq.trans rfl rfl
@[simp] theorem ps82 : fIx (.lst xs) (.int i) = atI xs i := Eq.trans rfl rfl
@[simp] theorem ps83 : fIx (.tup xs) (.int i) = atI xs i := Eq.trans rfl rfl
@[simp] theorem ps84 : fIx (.scr xs) (.int i) = atI xs i := Eq.trans rfl rfl
@[simp] theorem ps85 : fLen [.lst xs] = some (.int xs.length) := Eq.trans rfl rfl
@[simp] theorem ps86 : fLen [.tup xs] = some (.int xs.length) := Eq.trans rfl rfl
@[simp] theorem ps87 : fLen [.scr xs] = some (.int xs.length) := Eq.trans rfl rfl
@[simp] theorem ps88 : fAbs [.int i] = some (.int (if i < 0 then -i else i)) := Eq.trans rfl rfl
@[simp] theorem ps89 : fInt [.int i] = some (.int i) := Eq.trans rfl rfl
@[simp] theorem ps90 : fTuple [.lst xs] = some (.tup xs) := Eq.trans rfl rfl
@[simp] theorem ps91 : fTuple [.tup xs] = some (.tup xs) := Eq.trans rfl rfl
@[simp] theorem ps94 : fFld cl nm (.obj c fs) = if cl.contains c then fs.lookup nm else none := Eq.trans rfl rfl
@[simp] theorem ps95 : vFld cl nm oa de = vO1 (fFld cl nm) oa de := Eq.trans rfl rfl
@[simp] theorem ps96 {t : Ty} : fIsi cl [d, .cls t] = (tyOf d).bind fun s => if (tyIn cl s || tyN s) && tyIn cl t then some (.bl (isi s t)) else none := Eq.trans rfl rfl
@[simp] theorem ps97 : tyOf .non = some (.b "NoneType") := Eq.trans rfl rfl
@[simp] theorem ps98 : tyOf (.bl b) = some (.b "bool") := Eq.trans rfl rfl
@[simp] theorem ps99 : tyOf (.int i) = some (.b "int") := Eq.trans rfl rfl
@[simp] theorem ps100 : tyOf (.str x) = some (.b "str") := Eq.trans rfl rfl
@[simp] theorem ps101 : tyOf (.tup xs) = some (.b "tuple") := Eq.trans rfl rfl
@[simp] theorem ps102 : tyOf (.lst xs) = some (.b "list") := Eq.trans rfl rfl
@[simp] theorem ps103 {kvs : List (Key × D)} : tyOf (.dk kvs) = some (.b "dict") := Eq.trans rfl rfl
@[simp] theorem ps104 : tyOf (.obj c fs) = some (.o c) := Eq.trans rfl rfl
@[simp] theorem ps105 {S U : String} : isi (.b S) (.b U) = (S == U || (S == "bool" && U == "int")) := Eq.trans rfl rfl
@[simp] theorem ps106 {S : String} : isi (.b S) (.o c) = false := Eq.trans rfl rfl
@[simp] theorem ps107 {S : String} : isi (.o c) (.b S) = false := Eq.trans rfl rfl
@[simp] theorem ps108 {c2 : Nat} : isi (.o c) (.o c2) = (c == c2) := Eq.trans rfl rfl
@[simp] theorem ps109 {S : String} : tyIn cl (.b S) = bCls.contains S := Eq.trans rfl rfl
@[simp] theorem ps110 : tyIn cl (.o c) = cl.contains c := Eq.trans rfl rfl
@[simp] theorem ps111 {S : String} : tyN (.b S) = (S == "NoneType") := Eq.trans rfl rfl
@[simp] theorem ps112 : tyN (.o c) = false := Eq.trans rfl rfl
@[simp] theorem ps113 : bCls = ["bool", "int", "str", "tuple", "list", "dict"] := Eq.trans rfl rfl
@[simp] theorem ps114 : asI (.int i) = some i := Eq.trans rfl rfl
@[simp] theorem ps115 : (Sl.pn d).same d1 = .pn d1 := Eq.trans rfl rfl
@[simp] theorem ps116 : (Sl.ow d).same d1 = .ow d1 := Eq.trans rfl rfl
@[simp] theorem ps117 : (Sl.pn d).owd = some d := Eq.trans rfl rfl
@[simp] theorem ps118 : (Sl.ow d).owd = some d := Eq.trans rfl rfl
@[simp] theorem ps119 : (Sl.va d).owd = none := Eq.trans rfl rfl
@[simp] theorem ps120 : Sl.no.owd = none := Eq.trans rfl rfl
@[simp] theorem ps121 : slotOw k de = (de[k]?).bind fun s => s.owd.map fun d => (s, d) := Eq.trans rfl rfl
@[simp] theorem ps122 : isLst (.lst xs) = true := Eq.trans rfl rfl
@[simp] theorem ps123 : vSetIx k ev1 ev2 de = (ev1 de).out fun v de1 => if ((slotAt k de1).map isLst).getD false = true then (ev2 de1).out fun x de2 => putL k v x de2 else .bad := Eq.trans rfl rfl
@[simp] theorem ps124 {v : D} : putL k v d de = putLA k v d de (slotOw k de) := by unfold putL; cases slotOw k de with | none => rfl | some p => obtain ⟨s, x⟩ := p; cases x <;> rfl
@[simp] theorem ps125 {v : D} : putLA k v d de (some (s, .lst xs)) = putLB k v s xs de ((asI d).bind fun k => ixN xs.length k) := Eq.trans rfl rfl
@[simp] theorem ps126 {v : D} : putLB k v s xs de (some m) = .nx (de.set k (s.same (.lst (xs.set m v)))) := Eq.trans rfl rfl
@[simp] theorem ps127 : vSetFld k cl nm ev de = (ev de).out fun d de1 => fldA k cl nm d de1 (slotOw k de1) := by unfold vSetFld; congr 1 <;> (funext d de1; cases slotOw k de1 with | none => rfl | some p => obtain ⟨s, x⟩ := p; cases x <;> rfl)
@[simp] theorem ps128 : fldA k cl nm d de (some (s, .obj c fs)) = if cl.contains c = true ∧ fs.length < 1000 then .nx (de.set k (s.same (.obj c (putD nm d fs)))) else .bad := Eq.trans rfl rfl
@[simp] theorem ps129 {v : D} : putD nm v [] = [(nm, v)] := Eq.trans rfl rfl
@[simp] theorem ps130 {v w : D} {n2 : PySem.Str} : putD nm v ((n2, w) :: fs) = if n2 = nm then (n2, v) :: fs else (n2, w) :: putD nm v fs := Eq.trans rfl rfl
@[simp] theorem psFor {ei : DEnv → Rs (List D)} {gg : D → DEnv → Option DEnv} : vFor ei gg e1 de = (ei de).out fun ds de1 => vLoop gg e1 ds de1 := Eq.trans rfl rfl
@[simp] theorem ps131 {gg : D → DEnv → Option DEnv} : vLoop gg e1 [] de = .nx de := Eq.trans rfl rfl
@[simp] theorem ps132 : vSeqI ev de = (ev de).bind fun d de1 => ofO (itemsOf d) de1 := Eq.trans rfl rfl
@[simp] theorem ps133 : itemsOf (.lst xs) = some xs := Eq.trans rfl rfl
@[simp] theorem ps134 : itemsOf (.tup xs) = some xs := Eq.trans rfl rfl
@[simp] theorem ps135 : itemsOf (.scr xs) = some xs := Eq.trans rfl rfl
@[simp] theorem ps136 : tName k d de = some (de.set k (.va d)) := Eq.trans rfl rfl
@[simp] theorem ps137 : vRng1 ev de = (ev de).bind rngA := Eq.trans rfl rfl
@[simp] theorem ps138 : cNil de = .ok [] de := Eq.trans rfl rfl
@[simp] theorem ps139 : cVal ev ec de = (ev de).bind fun d de1 => (ec de1).bind fun cs de2 => .ok (.v d :: cs) de2 := Eq.trans rfl rfl
@[simp] theorem ps140 : cSlot k ec de = cSlotA k ec de (slotAt k de) := by unfold cSlot; cases slotAt k de <;> rfl
@[simp] theorem ps141 : cSlotA k ec de (some d) = (ec de).bind fun cs de2 => .ok (.s k :: cs) de2 := Eq.trans rfl rfl
@[simp] theorem ps142 : wCall n mu md dcs ec de = (ec de).bind fun cs de1 => callC n mu md dcs cs de1 := Eq.trans rfl rfl
@[simp] theorem ps143 : wCallF n mu md dcs ec de = (ec de).bind fun cs de1 => callCF n mu md dcs cs de1 := Eq.trans rfl rfl
@[simp] theorem ps144 : argD mu [] de = some [] := by cases mu <;> rfl
@[simp] theorem ps145 {cc : CA} : argD none (cc :: cs) de = (caD cc de).bind fun d => (argD none cs de).map (d :: ·) := Eq.trans rfl rfl
@[simp] theorem ps146 : argD (some 0) (.s k :: cs) de = (slotOw k de).bind fun q => (argD none cs de).map (q.2 :: ·) := Eq.trans rfl rfl
@[simp] theorem ps147 {cc : CA} : argD (some (k + 1)) (cc :: cs) de = (caD cc de).bind fun d => (argD (some k) cs de).map (d :: ·) := Eq.trans rfl rfl
@[simp] theorem ps148 : caD (.v d) de = some d := Eq.trans rfl rfl
@[simp] theorem ps149 : argS none cs = none := by cases cs <;> rfl
@[simp] theorem ps150 : argS (some 0) (.s k :: cs) = some k := Eq.trans rfl rfl
@[simp] theorem ps151 {cc : CA} : argS (some (k + 1)) (cc :: cs) = argS (some k) cs := Eq.trans rfl rfl
@[simp] theorem ps152 : okS mu (none : Option Nat) = ((none : Option Nat).isSome == mu.isSome) := Eq.trans rfl rfl
@[simp] theorem ps153 : okS mu (some k) = ((some k).isSome == mu.isSome) := Eq.trans rfl rfl
@[simp] theorem ps154 : callC n mu md dcs cs de = callA n mu md dcs cs de (argD mu cs de) := by unfold callC; cases argD mu cs de <;> rfl
@[simp] theorem ps155 {ds : List D} : callA n mu md dcs cs de (some ds) = if ds.length + dcs.length = n ∧ okS mu (argS mu cs) = true then callE (argS mu cs) de (md (ds ++ dcs)) else .bad := Eq.trans rfl rfl
@[simp] theorem ps156 : callCF n mu md dcs cs de = callFA n mu md dcs cs de (argD mu cs de) := by unfold callCF; cases argD mu cs de <;> rfl
@[simp] theorem ps157 {ds : List D} : callFA n mu md dcs cs de (some ds) = if ds.length + dcs.length = n ∧ okS mu (argS mu cs) = true then callF (argS mu cs) de (md (ds ++ dcs)) else .bad := Eq.trans rfl rfl
@[simp] theorem ps158 {w : Option Nat} : callE w de (.ret d q) = .ok d (putBack w q de) := Eq.trans rfl rfl
@[simp] theorem ps159 {w : Option Nat} : callE w de (.retF d q) = .ok d (putBack w q de) := Eq.trans rfl rfl
@[simp] theorem ps160 {w : Option Nat} : callE w de (.ex c fs q) = .ex c fs (putBack w q de) := Eq.trans rfl rfl
@[simp] theorem ps161 {w : Option Nat} : callF w de (.retF d q) = .ok d (putBack w q de) := Eq.trans rfl rfl
@[simp] theorem ps162 {w : Option Nat} : callF w de (.ex c fs q) = .ex c fs (putBack w q de) := Eq.trans rfl rfl
@[simp] theorem ps163 : putBack none q de = de := by cases q <;> rfl
@[simp] theorem ps164 : putBack (some k) (some d) de = putA k d de de[k]? := by unfold putBack; dsimp only; cases de[k]? <;> rfl
@[simp] theorem ps165 : putA k d de (some s) = de.set k (s.same d) := Eq.trans rfl rfl
@[simp] theorem ps166 : finish none (.ret d de) = .ret d none := Eq.trans rfl rfl
@[simp] theorem ps167 : finish none (.retF d de) = .retF d none := Eq.trans rfl rfl
@[simp] theorem ps168 : finish none (.nx de) = .ret .non none := Eq.trans rfl rfl
@[simp] theorem ps169 : finish none (.ex c fs de) = .ex c fs none := Eq.trans rfl rfl
@[simp] theorem ps170 : lastOf (some k) de = lastA de[k]? := by unfold lastOf; dsimp only; cases de[k]? with | none => rfl | some s => cases s <;> rfl
@[simp] theorem ps171 : lastA (some (.pn d)) = some (some d) := Eq.trans rfl rfl
@[simp] theorem ps172 : finish (some k) (.ret d de) = finA (.ret d) (lastOf (some k) de) := by unfold finish; dsimp only; cases lastOf (some k) de <;> rfl
@[simp] theorem ps173 : finish (some k) (.retF d de) = finA (.retF d) (lastOf (some k) de) := by unfold finish; dsimp only; cases lastOf (some k) de <;> rfl
@[simp] theorem ps174 : finish (some k) (.nx de) = finA (.ret .non) (lastOf (some k) de) := by unfold finish; dsimp only; cases lastOf (some k) de <;> rfl
@[simp] theorem ps175 : finish (some k) (.ex c fs de) = finA (.ex c fs) (lastOf (some k) de) := by unfold finish; dsimp only; cases lastOf (some k) de <;> rfl
@[simp] theorem ps176 {f : Option D → Fo} : finA f (some q) = f q := Eq.trans rfl rfl
@[simp] theorem ps177 : env0 none xs = xs.map .va := by cases xs <;> rfl
@[simp] theorem ps178 : env0 (some 0) (d :: xs) = .pn d :: xs.map .va := Eq.trans rfl rfl
@[simp] theorem ps179 : env0 (some (k + 1)) (d :: xs) = .va d :: env0 (some k) xs := Eq.trans rfl rfl
@[simp] theorem ps180 {gg : D → DEnv → Option DEnv} : vLoop gg e1 (d :: xs) de = loopA gg e1 xs (gg d de) := by rw [vLoop]; cases gg d de with | none => rfl | some de1 => (show (match e1 de1 with | .nx de2 => vLoop gg e1 xs de2 | .ct de2 => vLoop gg e1 xs de2 | .brk de2 => .nx de2 | .ret d de2 => .ret d de2 | .retF d de2 => .retF d de2 | .ex c fs de2 => .ex c fs de2 | .bad => .bad) = loopB gg e1 xs (e1 de1); cases e1 de1 <;> rfl)
@[simp] theorem ps181 {gg : D → DEnv → Option DEnv} : loopA gg e1 xs (some de) = loopB gg e1 xs (e1 de) := Eq.trans rfl rfl
@[simp] theorem ps182 {gg : D → DEnv → Option DEnv} : loopB gg e1 xs (.nx de) = vLoop gg e1 xs de := Eq.trans rfl rfl
@[simp] theorem ps183 {gg : D → DEnv → Option DEnv} : loopB gg e1 xs (.ct de) = vLoop gg e1 xs de := Eq.trans rfl rfl
@[simp] theorem ps184 {gg : D → DEnv → Option DEnv} : loopB gg e1 xs (.brk de) = .nx de := Eq.trans rfl rfl
@[simp] theorem ps185 {gg : D → DEnv → Option DEnv} : loopB gg e1 xs (.ret d de) = .ret d de := Eq.trans rfl rfl
@[simp] theorem ps186 {gg : D → DEnv → Option DEnv} : loopB gg e1 xs (.retF d de) = .retF d de := Eq.trans rfl rfl
@[simp] theorem ps187 {gg : D → DEnv → Option DEnv} : loopB gg e1 xs (.ex c fs de) = .ex c fs de := Eq.trans rfl rfl
@[simp] theorem ps225 : wMake c n md dcs ea de = (ea de).bind fun ds de1 => makeC c n md (ds ++ dcs) de1 := Eq.trans rfl rfl
@[simp] theorem ps226 : makeC c n md xs de = if xs.length + 1 = n then mkA de (md (.obj c [] :: xs)) else .bad := by unfold makeC; split <;> first | rfl | (cases md (.obj c [] :: xs) with | ret d q => cases d <;> cases q <;> rfl | ex c f q => cases q <;> rfl | _ => rfl)
@[simp] theorem ps227 : mkA de (.ret .non (some d)) = .ok d de := Eq.trans rfl rfl
@[simp] theorem ps228 : mkA de (.ex c fs (some d)) = .ex c fs de := Eq.trans rfl rfl
@[simp] theorem ps229 {par : PySem.Str} {okd : D → Bool} : vRaise2 c par okd ev de = (ev de).out fun d de1 => if okd d = true then .ex c [(par, d)] de1 else .bad := Eq.trans rfl rfl
@[simp] theorem ps233 {β : Type} {l : List (Nat × β)} {v : β} {a : Nat} : ((a, v) :: l).lookup c = if c = a then some v else l.lookup c := if h : c = a then by simp [List.lookup, h] else by have h2 : (c == a) = false := (by simpa using h); simp [List.lookup, h, h2]
@[simp] theorem ps234 {β : Type} {l : List (PySem.Str × β)} {v : β} {a : PySem.Str} : ((a, v) :: l).lookup nm = if nm = a then some v else l.lookup nm := if h : nm = a then by simp [List.lookup, h] else by have h2 : (nm == a) = false := (by simpa using h); simp [List.lookup, h, h2]
@[simp] theorem ps235 {f3 : D → Option Int → Option Int → Option D} {p1 p2 : DEnv → Rs (Option Int)} : vSl f3 o p1 p2 de = (o.run de).bind fun fa de1 => (p1 de1).bind fun l de2 => (p2 de2).bind fun u de3 => ofO ((fa de3).bind fun d => f3 d l u) de3 := Eq.trans rfl rfl
@[simp] theorem ps236 : vNoP de = .ok none de := Eq.trans rfl rfl
@[simp] theorem ps237 : vPart ev de = (ev de).bind fun d de1 => ofO ((asI d).map some) de1 := Eq.trans rfl rfl
@[simp] theorem ps238 {l u : Option Int} : fSlA (.scr xs) l u = some (.lst (cutD xs l u)) := Eq.trans rfl rfl
@[simp] theorem ps239 {l u : Option Int} : fSlA (.lst xs) l u = some (.lst (cutD xs l u)) := Eq.trans rfl rfl
@[simp] theorem ps240 {l u : Option Int} : fSlA (.tup xs) l u = some (.tup (cutD xs l u)) := Eq.trans rfl rfl
end
theorem ofString_inj (a b : String) : (PySem.Str.ofString a = PySem.Str.ofString b) = (a = b) := by
  refine propext ⟨fun h => ?_, fun h => by rw [h]⟩
  rw [PySem.Str.ofString_eq_toList, PySem.Str.ofString_eq_toList] at h
  have h1 : a.toList.map Char.toNat = b.toList.map Char.toNat := by
    have := congrArg (fun s => s.cps.toList) h
    simpa using this
  have h2 : ∀ l m : List Char, l.map Char.toNat = m.map Char.toNat → l = m := fun l => by
    induction l with
    | nil => intro m e; cases m with | nil => rfl | cons _ _ => cases e
    | cons x l ih =>
      intro m e
      cases m with
      | nil => cases e
      | cons y m =>
        simp only [List.map_cons, List.cons.injEq] at e
        rw [ih m e.2, Char.ext (UInt32.toNat_inj.mp e.1)]
  exact String.ext (h2 _ _ h1)
@[simp] theorem ofString_eq (a b : String) : (PySem.Str.ofString a = PySem.Str.ofString b) = (a = b) := ofString_inj a b
theorem cutD_len (xs : List D) (l u : Option Int) : (cutD xs l u).length ≤ xs.length := by
  unfold cutD
  rw [List.length_take, List.length_drop]
  omega
theorem fNe_self (d : D) (h : PySem.SeqAt.shaped (toPy d) = true) : fNe d d = some (.bl false) := by
  unfold fNe
  rw [h, PySem.SeqAt.eqv_refl _ (PySem.SeqAt.canLay_of_shaped h)]
  rfl
@[simp] theorem fEq_int (i j : Int) : fEq (.int i) (.int j) = some (.bl (decide (i = j))) := by
  have h : ∀ k : Int, PySem.SeqAt.shaped (toPy (.int k)) = true := fun k => rfl
  unfold fEq
  rw [h, h]
  show some (D.bl (i == j)) = _
  rw [show (i == j) = decide (i = j) from rfl]
@[simp] theorem fNe_int (i j : Int) : fNe (.int i) (.int j) = some (.bl (!decide (i = j))) := by
  have h : ∀ k : Int, PySem.SeqAt.shaped (toPy (.int k)) = true := fun k => rfl
  unfold fNe
  rw [h, h]
  show some (D.bl (!(i == j))) = _
  rw [show (i == j) = decide (i = j) from rfl]
theorem rngA_n (n : Nat) (h : n ≤ 100000000) (de : DEnv) : rngA (.int (n : Int)) de = .ok (rangeD 0 n) de := by
  have h0 : (n : Int) ≤ 100000000 := Int.ofNat_le.mpr h
  have h1 : -(2 ^ 62 : Int) ≤ (n : Int) := Int.le_trans (by decide : -(2 ^ 62 : Int) ≤ 0) (Int.natCast_nonneg n)
  have h2 : (n : Int) < 2 ^ 62 := Int.lt_of_le_of_lt h0 (by decide : (100000000 : Int) < 2 ^ 62)
  unfold rngA
  dsimp only
  rw [if_pos ⟨h1, h2⟩, Int.toNat_natCast]
theorem atI_n {α : Type} (l : List α) (n : Nat) : atI l (n : Int) = l[n]? := by
  unfold atI ixN
  by_cases h : n < l.length
  · simp [h]
  · simp [h]
theorem ixN_nat (m n : Nat) (h : n < m) : ixN m (n : Int) = some n := by
  unfold ixN
  simp [h]
@[simp] theorem rngL0 (de : DEnv) : rngA (.int 0) de = .ok (rangeD 0 0) de := rngA_n 0 (by decide) de
@[simp] theorem rngL1 (de : DEnv) : rngA (.int 1) de = .ok (rangeD 0 1) de := rngA_n 1 (by decide) de
@[simp] theorem rngL2 (de : DEnv) : rngA (.int 2) de = .ok (rangeD 0 2) de := rngA_n 2 (by decide) de
@[simp] theorem rngL3 (de : DEnv) : rngA (.int 3) de = .ok (rangeD 0 3) de := rngA_n 3 (by decide) de
@[simp] theorem rngL4 (de : DEnv) : rngA (.int 4) de = .ok (rangeD 0 4) de := rngA_n 4 (by decide) de
@[simp] theorem rngL5 (de : DEnv) : rngA (.int 5) de = .ok (rangeD 0 5) de := rngA_n 5 (by decide) de
@[simp] theorem rngL6 (de : DEnv) : rngA (.int 6) de = .ok (rangeD 0 6) de := rngA_n 6 (by decide) de
@[simp] theorem rngL7 (de : DEnv) : rngA (.int 7) de = .ok (rangeD 0 7) de := rngA_n 7 (by decide) de
@[simp] theorem rngL8 (de : DEnv) : rngA (.int 8) de = .ok (rangeD 0 8) de := rngA_n 8 (by decide) de
@[simp] theorem rngL9 (de : DEnv) : rngA (.int 9) de = .ok (rangeD 0 9) de := rngA_n 9 (by decide) de
@[simp] theorem rngL10 (de : DEnv) : rngA (.int 10) de = .ok (rangeD 0 10) de := rngA_n 10 (by decide) de
@[simp] theorem rngL11 (de : DEnv) : rngA (.int 11) de = .ok (rangeD 0 11) de := rngA_n 11 (by decide) de
@[simp] theorem rngL12 (de : DEnv) : rngA (.int 12) de = .ok (rangeD 0 12) de := rngA_n 12 (by decide) de
@[simp] theorem rngL13 (de : DEnv) : rngA (.int 13) de = .ok (rangeD 0 13) de := rngA_n 13 (by decide) de
@[simp] theorem rngL14 (de : DEnv) : rngA (.int 14) de = .ok (rangeD 0 14) de := rngA_n 14 (by decide) de
@[simp] theorem rngL15 (de : DEnv) : rngA (.int 15) de = .ok (rangeD 0 15) de := rngA_n 15 (by decide) de
@[simp] theorem rngL16 (de : DEnv) : rngA (.int 16) de = .ok (rangeD 0 16) de := rngA_n 16 (by decide) de
@[simp] theorem rngL17 (de : DEnv) : rngA (.int 17) de = .ok (rangeD 0 17) de := rngA_n 17 (by decide) de
@[simp] theorem rngL18 (de : DEnv) : rngA (.int 18) de = .ok (rangeD 0 18) de := rngA_n 18 (by decide) de
@[simp] theorem rngL19 (de : DEnv) : rngA (.int 19) de = .ok (rangeD 0 19) de := rngA_n 19 (by decide) de
@[simp] theorem rngL20 (de : DEnv) : rngA (.int 20) de = .ok (rangeD 0 20) de := rngA_n 20 (by decide) de
@[simp] theorem rngL21 (de : DEnv) : rngA (.int 21) de = .ok (rangeD 0 21) de := rngA_n 21 (by decide) de
@[simp] theorem rngL22 (de : DEnv) : rngA (.int 22) de = .ok (rangeD 0 22) de := rngA_n 22 (by decide) de
@[simp] theorem rngL23 (de : DEnv) : rngA (.int 23) de = .ok (rangeD 0 23) de := rngA_n 23 (by decide) de
@[simp] theorem rngL24 (de : DEnv) : rngA (.int 24) de = .ok (rangeD 0 24) de := rngA_n 24 (by decide) de
@[simp] theorem rngL25 (de : DEnv) : rngA (.int 25) de = .ok (rangeD 0 25) de := rngA_n 25 (by decide) de
@[simp] theorem rngL26 (de : DEnv) : rngA (.int 26) de = .ok (rangeD 0 26) de := rngA_n 26 (by decide) de
@[simp] theorem rngL27 (de : DEnv) : rngA (.int 27) de = .ok (rangeD 0 27) de := rngA_n 27 (by decide) de
@[simp] theorem rngL28 (de : DEnv) : rngA (.int 28) de = .ok (rangeD 0 28) de := rngA_n 28 (by decide) de
@[simp] theorem rngL29 (de : DEnv) : rngA (.int 29) de = .ok (rangeD 0 29) de := rngA_n 29 (by decide) de
@[simp] theorem rngL30 (de : DEnv) : rngA (.int 30) de = .ok (rangeD 0 30) de := rngA_n 30 (by decide) de
@[simp] theorem rngL31 (de : DEnv) : rngA (.int 31) de = .ok (rangeD 0 31) de := rngA_n 31 (by decide) de
@[simp] theorem rngL32 (de : DEnv) : rngA (.int 32) de = .ok (rangeD 0 32) de := rngA_n 32 (by decide) de
@[simp] theorem rngL33 (de : DEnv) : rngA (.int 33) de = .ok (rangeD 0 33) de := rngA_n 33 (by decide) de
@[simp] theorem rngL34 (de : DEnv) : rngA (.int 34) de = .ok (rangeD 0 34) de := rngA_n 34 (by decide) de
@[simp] theorem rngL35 (de : DEnv) : rngA (.int 35) de = .ok (rangeD 0 35) de := rngA_n 35 (by decide) de
@[simp] theorem rngL36 (de : DEnv) : rngA (.int 36) de = .ok (rangeD 0 36) de := rngA_n 36 (by decide) de
@[simp] theorem rngL37 (de : DEnv) : rngA (.int 37) de = .ok (rangeD 0 37) de := rngA_n 37 (by decide) de
@[simp] theorem rngL38 (de : DEnv) : rngA (.int 38) de = .ok (rangeD 0 38) de := rngA_n 38 (by decide) de
@[simp] theorem rngL39 (de : DEnv) : rngA (.int 39) de = .ok (rangeD 0 39) de := rngA_n 39 (by decide) de
@[simp] theorem rngL40 (de : DEnv) : rngA (.int 40) de = .ok (rangeD 0 40) de := rngA_n 40 (by decide) de
@[simp] theorem atI0 {α : Type} (l : List α) : atI l 0 = l[0]? := atI_n l 0
@[simp] theorem ixN0 (m : Nat) (h : 0 < m) : ixN m 0 = some 0 := ixN_nat m 0 h
@[simp] theorem atI1 {α : Type} (l : List α) : atI l 1 = l[1]? := atI_n l 1
@[simp] theorem ixN1 (m : Nat) (h : 1 < m) : ixN m 1 = some 1 := ixN_nat m 1 h
@[simp] theorem atI2 {α : Type} (l : List α) : atI l 2 = l[2]? := atI_n l 2
@[simp] theorem ixN2 (m : Nat) (h : 2 < m) : ixN m 2 = some 2 := ixN_nat m 2 h
@[simp] theorem atI3 {α : Type} (l : List α) : atI l 3 = l[3]? := atI_n l 3
@[simp] theorem ixN3 (m : Nat) (h : 3 < m) : ixN m 3 = some 3 := ixN_nat m 3 h
@[simp] theorem atI4 {α : Type} (l : List α) : atI l 4 = l[4]? := atI_n l 4
@[simp] theorem ixN4 (m : Nat) (h : 4 < m) : ixN m 4 = some 4 := ixN_nat m 4 h
@[simp] theorem atI5 {α : Type} (l : List α) : atI l 5 = l[5]? := atI_n l 5
@[simp] theorem ixN5 (m : Nat) (h : 5 < m) : ixN m 5 = some 5 := ixN_nat m 5 h
@[simp] theorem atI6 {α : Type} (l : List α) : atI l 6 = l[6]? := atI_n l 6
@[simp] theorem ixN6 (m : Nat) (h : 6 < m) : ixN m 6 = some 6 := ixN_nat m 6 h
@[simp] theorem atI7 {α : Type} (l : List α) : atI l 7 = l[7]? := atI_n l 7
@[simp] theorem ixN7 (m : Nat) (h : 7 < m) : ixN m 7 = some 7 := ixN_nat m 7 h
@[simp] theorem atI8 {α : Type} (l : List α) : atI l 8 = l[8]? := atI_n l 8
@[simp] theorem ixN8 (m : Nat) (h : 8 < m) : ixN m 8 = some 8 := ixN_nat m 8 h
@[simp] theorem atI9 {α : Type} (l : List α) : atI l 9 = l[9]? := atI_n l 9
@[simp] theorem ixN9 (m : Nat) (h : 9 < m) : ixN m 9 = some 9 := ixN_nat m 9 h
@[simp] theorem atI10 {α : Type} (l : List α) : atI l 10 = l[10]? := atI_n l 10
@[simp] theorem ixN10 (m : Nat) (h : 10 < m) : ixN m 10 = some 10 := ixN_nat m 10 h
@[simp] theorem atI11 {α : Type} (l : List α) : atI l 11 = l[11]? := atI_n l 11
@[simp] theorem ixN11 (m : Nat) (h : 11 < m) : ixN m 11 = some 11 := ixN_nat m 11 h
@[simp] theorem atI12 {α : Type} (l : List α) : atI l 12 = l[12]? := atI_n l 12
@[simp] theorem ixN12 (m : Nat) (h : 12 < m) : ixN m 12 = some 12 := ixN_nat m 12 h
theorem lt_pow_big {n k : Nat} (h : n < 2 ^ 200) (hk : 200 ≤ k) : n < 2 ^ k := Nat.lt_of_lt_of_le h (Nat.pow_le_pow_right (by decide) hk)
theorem cMul_ok {i j : Int} (h1 : i.natAbs < 2 ^ 200) (h2 : j.natAbs < 2 ^ 200) : cMul i j = true := by
  unfold cMul
  rw [decide_eq_true (lt_pow_big h1 (by decide)), decide_eq_true (lt_pow_big h2 (by decide))]
  rfl
theorem cDiv_ok {i j : Int} (h1 : 0 < j) (h2 : j.natAbs < 2 ^ 200) : cDiv i j = true := by
  unfold cDiv
  rw [decide_eq_true h1, decide_eq_true (lt_pow_big h2 (by decide))]
  rfl
theorem cMod_ok {i j : Int} (h1 : 0 < j) : cMod i j = true := decide_eq_true h1
theorem vLoop_nx {g : D → DEnv → Option DEnv} {tb : DEnv → Ot} {d : D} {r : List D} {de de1 de2 : DEnv} (h1 : g d de = some de1) (h2 : tb de1 = .nx de2) : vLoop g tb (d :: r) de = vLoop g tb r de2 := by
  rw [vLoop, h1]; dsimp only; rw [h2]
theorem vLoop_ct {g : D → DEnv → Option DEnv} {tb : DEnv → Ot} {d : D} {r : List D} {de de1 de2 : DEnv} (h1 : g d de = some de1) (h2 : tb de1 = .ct de2) : vLoop g tb (d :: r) de = vLoop g tb r de2 := by
  rw [vLoop, h1]; dsimp only; rw [h2]
section
variable {k : Nat} {de : DEnv} {d : D} {f : PySem.Str}
@[simp] theorem ps243 : vVarA k de (some (.cn d)) = .ok d de := Eq.trans rfl rfl
@[simp] theorem ps244 : (Sl.cn d).dat = some d := Eq.trans rfl rfl
end
end DL
namespace DL
open L2 PySem
def asgA : Option DEnv → Ot
  | some de => .nx de
  | none => .bad
section
variable {de : DEnv} {c k n i : Nat} {fs : List (Str × D)} {vs : List Nat} {v : Nat} {l r : List HdD} {eb es e1 : DEnv → Ot} {ev ev' : DEnv → Rs D} {d d' x y : D} {xs ys ds as : List D} {o : Option Nat} {mt : Nat → Option Bool} {g : D → DEnv → Option DEnv} {gs : List D → DEnv → Option DEnv} {z : Int} {s : Sl} {ea : DEnv → Rs (List D)} {gm : List D → List D → Option (D × List D)}
@[simp] theorem pt2 : vPost vs e1 de = dropO vs (e1 de) := Eq.trans rfl rfl
@[simp] theorem pt4 : wipeD de [] = de := Eq.trans rfl rfl
@[simp] theorem pt5 : wipeD de (v :: vs) = (wipeD de vs).set v .no := Eq.trans rfl rfl
@[simp] theorem pt6 : dropO vs (.nx de) = .nx (wipeD de vs) := Eq.trans rfl rfl
@[simp] theorem pt7 : dropO vs (.ct de) = .ct (wipeD de vs) := Eq.trans rfl rfl
@[simp] theorem pt8 : dropO vs (.brk de) = .brk (wipeD de vs) := Eq.trans rfl rfl
@[simp] theorem pt9 : dropO vs (.ret d de) = .ret d de := Eq.trans rfl rfl
@[simp] theorem pt10 : dropO vs (.retF d de) = .retF d de := Eq.trans rfl rfl
@[simp] theorem pt11 : dropO vs (.ex c fs de) = .ex c fs de := Eq.trans rfl rfl
@[simp] theorem pt37 : tgNil [] de = some de := Eq.trans rfl rfl
@[simp] theorem pt38 : tgCons g gs (d :: ds) de = (g d de).bind fun de1 => gs ds de1 := Eq.trans rfl rfl
@[simp] theorem pt39 : tgTup n gs (.tup ds) de = if ds.length = n then gs ds de else none := Eq.trans rfl rfl
@[simp] theorem pt40 : vAsg ev g de = (ev de).out fun d de1 => asgA (g d de1) := by unfold vAsg <;> (congr 1 <;> (funext d de1 <;> (cases g d de1 <;> rfl)))
@[simp] theorem pt41 : asgA (some de) = .nx de := Eq.trans rfl rfl
@[simp] theorem pt80 : scal .non = true := Eq.trans rfl rfl
@[simp] theorem pt81 {b : Bool} : scal (.bl b) = true := Eq.trans rfl rfl
@[simp] theorem pt82 : scal (.int z) = true := Eq.trans rfl rfl
@[simp] theorem pt83 {u : Str} : scal (.str u) = true := Eq.trans rfl rfl
@[simp] theorem pt90 : truD (.int z) = some (z != 0) := Eq.trans rfl rfl
@[simp] theorem pt91 : truD (.tup xs) = some (!xs.isEmpty) := Eq.trans rfl rfl
@[simp] theorem pt92 : truD (.lst xs) = some (!xs.isEmpty) := Eq.trans rfl rfl
@[simp] theorem pt93 : truD .non = some false := Eq.trans rfl rfl
@[simp] theorem pt94 {b : Bool} : fInt [.bl b] = some (.int (if b then 1 else 0)) := Eq.trans rfl rfl
@[simp] theorem pt95 (h : z.natAbs.log2 < 1920) : fStrI [.int z] = some (.str (toString z)) := by unfold fStrI; dsimp only; rw [if_pos h]
end
section
variable {z w : Int} {b a : Bool} {u v : Str} {d : D} {ds es : List D}
@[simp] theorem pt97 : toPy .non = .none := Eq.trans rfl rfl
@[simp] theorem pt98 : toPy (.bl b) = .bool b := Eq.trans rfl rfl
@[simp] theorem pt99 : toPy (.int z) = .int z := Eq.trans rfl rfl
@[simp] theorem pt100 : toPy (.str u) = .str u := Eq.trans rfl rfl
@[simp] theorem pt101 : toPy (.tup ds) = .tuple (toPys ds) := Eq.trans rfl rfl
@[simp] theorem pt102 : toPy (.lst ds) = .list (toPys ds) := Eq.trans rfl rfl
@[simp] theorem pt103 : toPys [] = [] := Eq.trans rfl rfl
@[simp] theorem pt104 : toPys (d :: ds) = toPy d :: toPys ds := Eq.trans rfl rfl
@[simp] theorem pt116 {i j : Int} (h : cDivG i j = true) : fFdivG (.int i) (.int j) = some (.int (i.fdiv j)) := by show (if cDivG i j = true then _ else _) = _; rw [if_pos h]
@[simp] theorem pt133 {b : Bool} : fNegB (some (.bl b)) = some (.bl (!b)) := Eq.trans rfl rfl
@[simp] theorem pt149 {e : List (D × D)} : tyOf (.dn e) = some (.b "dict") := Eq.trans rfl rfl
@[simp] theorem pt161 {c c2 : Nat} {fs : List (Str × D)} : isC c (.obj c2 fs) = (c2 == c) := Eq.trans rfl rfl
end
theorem pt_tup {ds : List D} : toPy (.tup ds) = .tuple (toPys ds) := Eq.trans rfl rfl
@[simp] theorem shp_eq (d : PyData) : SeqAt.shaped d = (d.canLay0 && decide (d.depth ≤ 64)) := Eq.trans rfl rfl
section
variable {z w : Int} {b a : Bool} {u v : Str} {d e : PyData} {ds es : List PyData}
@[simp] theorem cl1 : PyData.none.canLay0 = true := Eq.trans rfl rfl
@[simp] theorem cl2 : (PyData.bool b).canLay0 = true := Eq.trans rfl rfl
@[simp] theorem cl3 : (PyData.int z).canLay0 = true := Eq.trans rfl rfl
@[simp] theorem cl4 : (PyData.list ds).canLay0 = PyData.canLayAll0 ds := by rw [PyData.canLay0]
@[simp] theorem cl5 : (PyData.tuple ds).canLay0 = PyData.canLayAll0 ds := by rw [PyData.canLay0]
@[simp] theorem cl6 : PyData.canLayAll0 [] = true := by rw [PyData.canLayAll0]
@[simp] theorem cl7 : PyData.canLayAll0 (d :: ds) = (d.canLay0 && PyData.canLayAll0 ds) := by rw [PyData.canLayAll0]
@[simp] theorem dp1 : PyData.none.depth = 0 := Eq.trans rfl rfl
@[simp] theorem dp2 : (PyData.bool b).depth = 0 := Eq.trans rfl rfl
@[simp] theorem dp3 : (PyData.int z).depth = 0 := Eq.trans rfl rfl
@[simp] theorem dp4 : (PyData.str u).depth = 0 := Eq.trans rfl rfl
@[simp] theorem dp5 : (PyData.list ds).depth = PyData.depthAll ds + 1 := by rw [PyData.depth]
@[simp] theorem dp6 : (PyData.tuple ds).depth = PyData.depthAll ds + 1 := by rw [PyData.depth]
@[simp] theorem dp7 : PyData.depthAll [] = 0 := by rw [PyData.depthAll]
@[simp] theorem dp8 : PyData.depthAll (d :: ds) = max d.depth (PyData.depthAll ds) := by rw [PyData.depthAll]
@[simp] theorem ev1 : PyData.eqv .none .none = true := by rw [PyData.eqv]
@[simp] theorem ev2 : PyData.eqv (.int z) (.int w) = decide (z = w) := by rw [PyData.eqv]; by_cases h : z = w <;> simp [h]
@[simp] theorem ev3 : PyData.eqv (.bool a) (.bool b) = (a == b) := by rw [PyData.eqv]
@[simp] theorem ev4 : PyData.eqv (.str u) (.str v) = decide (u = v) := by rw [PyData.eqv]; by_cases h : u = v <;> simp [h]
@[simp] theorem ev5 : PyData.eqv (.tuple ds) (.tuple es) = PyData.eqvAll ds es := by rw [PyData.eqv]
@[simp] theorem ev6 : PyData.eqv (.list ds) (.list es) = PyData.eqvAll ds es := by rw [PyData.eqv]
@[simp] theorem ev7 : PyData.eqvAll [] [] = true := by rw [PyData.eqvAll]
@[simp] theorem ev8 : PyData.eqvAll (d :: ds) (e :: es) = (PyData.eqv d e && PyData.eqvAll ds es) := by rw [PyData.eqvAll]
@[simp] theorem ev9 : PyData.eqvAll [] (e :: es) = false := by rw [PyData.eqvAll]
@[simp] theorem ev10 : PyData.eqvAll (d :: ds) [] = false := by rw [PyData.eqvAll]
@[simp] theorem ev11 : PyData.eqv .none (.int z) = false := by rw [PyData.eqv]
@[simp] theorem ev12 : PyData.eqv (.int z) .none = false := by rw [PyData.eqv]
end
theorem fEq_sh (x y : D) (h1 : SeqAt.shaped (toPy x) = true) (h2 : SeqAt.shaped (toPy y) = true) : fEq x y = some (.bl (PyData.eqv (toPy x) (toPy y))) := by unfold fEq; rw [h1, h2]; rfl
theorem fNe_sh (x y : D) (h1 : SeqAt.shaped (toPy x) = true) (h2 : SeqAt.shaped (toPy y) = true) : fNe x y = some (.bl (!PyData.eqv (toPy x) (toPy y))) := by unfold fNe; rw [h1, h2]; rfl
@[simp] theorem fEq_lit {a b : String} (h1 : PyData.canLay0 (.str (Str.ofString a)) = true) (h2 : PyData.canLay0 (.str (Str.ofString b)) = true) : fEq (.str (Str.ofString a)) (.str (Str.ofString b)) = some (.bl (decide (a = b))) := by
  rw [fEq_sh _ _ (by simp [h1]) (by simp [h2])]
  simp
@[simp] theorem fNe_lit {a b : String} (h1 : PyData.canLay0 (.str (Str.ofString a)) = true) (h2 : PyData.canLay0 (.str (Str.ofString b)) = true) : fNe (.str (Str.ofString a)) (.str (Str.ofString b)) = some (.bl (!decide (a = b))) := by
  rw [fNe_sh _ _ (by simp [h1]) (by simp [h2])]
  simp
@[simp] theorem fEq_tup {xs ys : List D} (h1 : SeqAt.shaped (.tuple (toPys xs)) = true) (h2 : SeqAt.shaped (.tuple (toPys ys)) = true) : fEq (.tup xs) (.tup ys) = some (.bl (PyData.eqvAll (toPys xs) (toPys ys))) := by
  rw [fEq_sh _ _ (by rw [pt_tup]; exact h1) (by rw [pt_tup]; exact h2)]
  simp
@[simp] theorem fNe_tup {xs ys : List D} (h1 : SeqAt.shaped (.tuple (toPys xs)) = true) (h2 : SeqAt.shaped (.tuple (toPys ys)) = true) : fNe (.tup xs) (.tup ys) = some (.bl (!PyData.eqvAll (toPys xs) (toPys ys))) := by
  rw [fNe_sh _ _ (by rw [pt_tup]; exact h1) (by rw [pt_tup]; exact h2)]
  simp
theorem rngE {j : Int} {n : Nat} (h : j = n) (hn : n ≤ 100000000) (de : DEnv) : rngA (.int j) de = .ok (rangeD 0 n) de := by rw [h]; exact rngA_n n hn de
theorem vLoop_idx {g : D → DEnv → Option DEnv} {tb : DEnv → Ot} {I : Nat → DEnv → Prop} : ∀ (l : List D) (n : Nat) (de : DEnv), I n de → (∀ k d, l[k]? = some d → ∀ de, I (n + k) de → ∃ de1 de2, g d de = some de1 ∧ (tb de1 = .nx de2 ∨ tb de1 = .ct de2) ∧ I (n + k + 1) de2) → ∃ de', vLoop g tb l de = .nx de' ∧ I (n + l.length) de'
  | [], n, de, hi, _ => ⟨de, rfl, hi⟩
  | d :: r, n, de, hi, h => by
    obtain ⟨de1, de2, h1, h2, h3⟩ := h 0 d rfl de hi
    obtain ⟨de3, k1, k2⟩ := vLoop_idx r (n + 1) de2 h3 fun k d hd de hk => by
      have e : n + 1 + k = n + (k + 1) := by omega
      rw [e] at hk ⊢
      exact h (k + 1) d (by simpa using hd) de hk
    have e : n + 1 + r.length = n + (d :: r).length := by simp; omega
    rw [e] at k2
    rcases h2 with h2 | h2
    · exact ⟨de3, by rw [vLoop_nx h1 h2, k1], k2⟩
    · exact ⟨de3, by rw [vLoop_ct h1 h2, k1], k2⟩
theorem rangeD_get (lo : Int) (n k : Nat) (d : D) (h : (rangeD lo n)[k]? = some d) : k < n ∧ d = .int (lo + k) := by
  unfold rangeD at h
  rw [List.getElem?_map] at h
  by_cases il : k < n
  · rw [List.getElem?_range il] at h
    cases h
    exact ⟨il, rfl⟩
  · rw [List.getElem?_eq_none (by simpa using Nat.le_of_not_lt il)] at h
    cases h
theorem rangeD_length (lo : Int) (n : Nat) : (rangeD lo n).length = n := by simp [rangeD]
theorem vLoop_range {g : D → DEnv → Option DEnv} {tb : DEnv → Ot} (I : Nat → DEnv → Prop) (n : Nat) (de : DEnv) (h0 : I 0 de) (h : ∀ k, k < n → ∀ de, I k de → ∃ de1 de2, g (.int (k : Int)) de = some de1 ∧ (tb de1 = .nx de2 ∨ tb de1 = .ct de2) ∧ I (k + 1) de2) : ∃ de', vLoop g tb (rangeD 0 n) de = .nx de' ∧ I n de' := by
  obtain ⟨de', e, i⟩ := vLoop_idx (g := g) (tb := tb) (I := I) (rangeD 0 n) 0 de h0 fun k d hd de hk => by
    obtain ⟨kl, rfl⟩ := rangeD_get 0 n k d hd
    rw [Nat.zero_add] at hk ⊢
    rw [Int.zero_add]
    exact h k kl de hk
  rw [Nat.zero_add, rangeD_length] at i
  exact ⟨de', e, i⟩
def Shp (n : Nat) (d : D) : Prop := (toPy d).canLay0 = true ∧ (toPy d).depth ≤ n
theorem Shp.up {n m : Nat} {d : D} (h : Shp n d) (l : n ≤ m) : Shp m d := ⟨h.1, Nat.le_trans h.2 l⟩
theorem Shp.ok {n : Nat} {d : D} (h : Shp n d) (l : n ≤ 64) : PySem.SeqAt.shaped (toPy d) = true := by
  unfold PySem.SeqAt.shaped
  rw [h.1, decide_eq_true (Nat.le_trans h.2 l)]
  rfl
end DL
namespace DL
open PySem L2
end DL
namespace DL
open PySem L2
section
variable {de : DEnv} {d : D} {f : Str → List D → Option D} {ev : DEnv → Rs D} {ea : DEnv → Rs (List D)} {es : List (DEnv → Rs D)} {a b acc y : Str} {ds : List D} {i : Int} {ys : List Str}
def fsA (es : List (DEnv → Rs D)) (acc : Str) (de1 : DEnv) : D → Rs D
  | .str y => if (acc ++ y).length ≤ 16777216 then vFs es (acc ++ y) de1 else .bad
  | _ => .bad
@[simp] theorem pu5 : vFmt ev de = (ev de).bind fun d de1 => ofO (fmtD d) de1 := Eq.trans rfl rfl
@[simp] theorem pu6 : vFs [] acc de = .ok (.str acc) de := Eq.trans rfl rfl
@[simp] theorem pu7 : vFs (ev :: es) acc de = (ev de).bind fun d de1 => fsA es acc de1 d := Eq.trans rfl rfl
@[simp] theorem pu8 : fsA es acc de (.str y) = if (acc ++ y).length ≤ 16777216 then vFs es (acc ++ y) de else .bad := Eq.trans rfl rfl
end
end DL
namespace DL
open PySem L2
section
variable {c : Nat} {cond : List D → Bool} {f : D → D → Option D} {a b : D} {m : List D → Fo} {z : Str}
theorem isC_obj (h : isC c a = true) : ∃ fs, a = .obj c fs := by
  cases a with
  | obj c' fs =>
    have e : c' = c := by simpa [isC] using h
    exact ⟨fs, by rw [e]⟩
  | _ => cases h
theorem eqNI_l (h : isC c a = true) (hb : oddD b = true) (hc : cond [a, b] = true) : fEqNI c cond f a b = some (.bl false) := by
  obtain ⟨fs, rfl⟩ := isC_obj h
  show (if oddD b = true then (if c = c ∧ cond [.obj c fs, b] = true then some (D.bl false) else none) else f (.obj c fs) b) = _
  rw [if_pos hb, if_pos ⟨rfl, hc⟩]
theorem eqNI_r (h : isC c b = true) (ha : oddD a = true) (hc : cond [b, a] = true) : fEqNI c cond f a b = some (.bl false) := by
  obtain ⟨fs, rfl⟩ := isC_obj h
  have e : fEqNI c cond f a (.obj c fs) = (if oddD a = true then (if c = c ∧ cond [.obj c fs, a] = true then some (.bl false) else none) else f a (.obj c fs)) := by
    cases a <;> first | rfl | cases ha
  rw [e, if_pos ha, if_pos ⟨rfl, hc⟩]
theorem neNI_l (h : isC c a = true) (hb : oddD b = true) (hc : cond [a, b] = true) : fNeNI c cond f a b = some (.bl true) := by
  obtain ⟨fs, rfl⟩ := isC_obj h
  show (if oddD b = true then (if c = c ∧ cond [.obj c fs, b] = true then some (D.bl true) else none) else f (.obj c fs) b) = _
  rw [if_pos hb, if_pos ⟨rfl, hc⟩]
@[simp] theorem strOk2_s : strOk2 (.ret (.str z) none) = some (.str z) := Eq.trans rfl rfl
theorem strO_own (h : isC c a = true) : fStrO c m [a] = strOk2 (m [a]) := by
  obtain ⟨fs, rfl⟩ := isC_obj h
  show (if c = c then strOk2 (m [.obj c fs]) else none) = _
  rw [if_pos rfl]
end
end DL
namespace Lw
open PySem PySem.W PySem.Calls PyProof.Rows HeadRun
theorem map_two {α β γ : Type} {x : Option α} {f : α → β × γ} {g : β × γ} (h1 : x.map (fun a => (f a).1) = some g.1) (h2 : x.map (fun a => (f a).2) = some g.2) : x.map f = some g := by
  cases x with
  | none => cases h1
  | some a => exact congrArg some (Prod.ext (Option.some.inj h1) (Option.some.inj h2))
noncomputable abbrev WF (p : Program) (N : Nat) (w : World) : Option (Shared × SharedT) := wholeF (fun p => stepQ (denQ tabQ) p w) fenceQ N p
theorem left_imp3 {p q : Program} {loose : List Str} {Xt : Shared → Bool} {α : Type} {Yf : Shared → α} {Ya : World → α} {N : Nat}
    (h1 : ∀ w : World, (WF p N w).map (fun x => looksF p x.1.heap x.2.abs) = some true)
    (h2 : ∀ w : World, (WF p N w).map (fun x => seenQ q loose (importedModules p.main.body) Xt x.2.abs) = some (openGood q loose))
    (h3 : ∀ w : World, (WF p N w).map (fun x => Yf x.2.abs) = some (Ya w)) : LeftO p q loose Xt Yf Ya N true :=
  left_imp fun w => by
    rw [wholeQ_eq]
    simp only [seenQ_eq]
    exact map_two (f := fun x : Shared × SharedT => (looksF p x.1.heap x.2.abs, seenQ q loose (importedModules p.main.body) Xt x.2.abs, Yf x.2.abs)) (g := (true, openGood q loose, Ya w)) (h1 w) (map_two (h2 w) (h3 w))
theorem obs_k {p : Program} {K : Params → Frag} {as : List Addr} {ek : ∀ P, as = (K P).map (·.1)} {N : Nat}
    (h : ∀ w : World, (WF p N w).map (fun x => as.map (getT x.2)) = some ((K w.params).map fun x => some x.2)) (w : World) :
    (WF p N w).map (fun x => Hook.obs (kHook K as ek) x.2.abs) = some (Hook.val (kHook K as ek) w) := by
  have eo : (fun x : Shared × SharedT => as.map (getT x.2)) = fun x => Hook.obs (kHook K as ek) x.2.abs := by
    funext x
    exact List.map_congr_left fun a _ => getT_eq x.2 a
  rw [← eo]
  exact h w
theorem head_all {r : OpenRow} {q : Program} {H : Hook} {loose : List Str} {N : Nat} {d : DefRec} {kwd : List (Str × PySem.Expr)}
    (h1 : ∀ w : World, (WF r.prog N w).map (fun x => looksF r.prog x.1.heap x.2.abs) = some true)
    (h2 : ∀ w : World, (WF r.prog N w).map (fun x => seenQ q loose (importedModules r.prog.main.body) (fun s => xlAt q [] s && recOk r.toRowW.records s) x.2.abs) = some (openGood q loose))
    (h3 : ∀ w : World, (WF r.prog N w).map (fun x => H.obs x.2.abs) = some (H.val w))
    (hdef : defOf q r.name = some (d, kwd)) (hp : r.prog.theDef r.name = some (d.params, d.body, d.scope)) (hk : kwWritten? d.params.kwonlyargs d.params.kw_defaults = some kwd)
    (hwr : (!r.writes || r.records.isEmpty) = true) (k1 : r.wellSaid = true) (ok : (chainsOk q && opensWell r.prog && (frees r.toRowW && r.within.isEmpty)) = true) (hb : r.prog.bare) (hw : r.toRowW.promised)
    (call : WalkO q loose (XL q []) H.says r.toRowW d kwd fun f vs => PySem.call f vs) : r.Holds :=
  holds_open (r := r) (q := q) (loose := loose) (XP := XL q []) (YP := H.says) (d := d) (kwd := kwd) (left_imp3 h1 h2 h3) H.of H.keeps (fun s z => xl_of s (Bool.and_eq_true_iff.mp z).1) XL.keeps hdef hp hk (fun s z => recFacts_of (Bool.and_eq_true_iff.mp z).2) hwr k1 ok hb hw call
end Lw
section
open PySem PySem.W PySem.Calls PyProof.Rows HeadRun
local macro_rules
  | `(tactic| o_headL ($_f:ident $_k $_a $_e)) => `(tactic| exact False.elim (by assumption))
set_option maxRecDepth 100000 in
set_option maxHeartbeats 0 in
theorem Lw.pre (_h : False) : (OpenLaw.row PySem.Challenge.rw_labelgaps_k04_share_order_and_text).Holds := by
  k_headL
def Lw.prm : Params := { strHash := fun _ => 0, shareClass := fun _ => 0, mergeTok := fun t => t, idOf := fun _ => 0, idOfShared := fun _ _ => 0, followText := fun _ => false, idOfImm := fun _ => 0 }
noncomputable def Lw.has : List Addr := (Lw.pre.heap_1 Lw.prm).map (·.1)
theorem Lw.has_eq : ∀ P, Lw.has = (Lw.pre.heap_1 P).map (·.1) := fun _ => by kernel_rfl
noncomputable abbrev Lw.hq : Program := view PySem.Challenge.pw_labelgaps_k04_share_order_and_text [0, 18]
def Lw.hn0 : List Str := [("_wall" : Str), ("__name__" : Str), ("LabelError" : Str), ("BadShare" : Str), ("NoShare" : Str), ("is_integer" : Str), ("is_number" : Str), ("parts_of" : Str), ("floor_of" : Str), ("Share" : Str), ("_law_start" : Str), ("_law_draw" : Str), ("_law_number" : Str), ("_law_gcd" : Str), ("_law_compares" : Str)]
def Lw.hn : List Str := Lw.hn0
set_option maxRecDepth 100000 in
set_option maxHeartbeats 0 in
theorem Lw.run1 (w : World) : (Lw.WF PySem.Challenge.pw_labelgaps_k04_share_order_and_text 60000 w).map (fun x => looksF PySem.Challenge.pw_labelgaps_k04_share_order_and_text x.1.heap x.2.abs) = some true := by
  kernel_rfl
set_option maxRecDepth 100000 in
set_option maxHeartbeats 0 in
theorem Lw.run2 (w : World) : (Lw.WF PySem.Challenge.pw_labelgaps_k04_share_order_and_text 60000 w).map (fun x => seenQ Lw.hq Lw.hn (importedModules PySem.Challenge.pw_labelgaps_k04_share_order_and_text.main.body) (fun s => xlAt Lw.hq [] s && recOk (OpenLaw.row PySem.Challenge.rw_labelgaps_k04_share_order_and_text).toRowW.records s) x.2.abs) = some (openGood Lw.hq Lw.hn) := by
  kernel_rfl
set_option maxRecDepth 100000 in
set_option maxHeartbeats 0 in
theorem Lw.run3 (w : World) : (Lw.WF PySem.Challenge.pw_labelgaps_k04_share_order_and_text 60000 w).map (fun x => Lw.has.map (getT x.2)) = some ((Lw.pre.heap_1 w.params).map fun x => some x.2) := by
  kernel_rfl
end
set_option maxHeartbeats 8000000
namespace Lw
open PySem L2 DL
abbrev pgm : Program := PySem.Challenge.pw_labelgaps_k04_share_order_and_text
def top (i : Nat) : Stmt := pgm.main.body.getD i (.Pass ⟨0, 0, 0, 0⟩)
abbrev s__law_start : Stmt := (top 13)
abbrev s__law_draw : Stmt := (top 14)
abbrev s__law_number : Stmt := (top 15)
abbrev s_is_integer : Stmt := (top 7)
abbrev s_Share_init : Stmt := (inClass (top 11) 0)
abbrev s__law_gcd : Stmt := (top 16)
abbrev s_parts_of : Stmt := (top 9)
abbrev s_is_number : Stmt := (top 8)
abbrev s_Share___eq__ : Stmt := (inClass (top 11) 13)
abbrev s_Share___lt__ : Stmt := (inClass (top 11) 14)
abbrev s_Share___gt__ : Stmt := (inClass (top 11) 16)
abbrev s_Share___le__ : Stmt := (inClass (top 11) 15)
abbrev s_Share___ge__ : Stmt := (inClass (top 11) 17)
abbrev s__law_compares : Stmt := (top 17)
abbrev s_Share___str__ : Stmt := (inClass (top 11) 18)
abbrev s_law : Stmt := (top 18)
abbrev s_BadShare_init : Stmt := (inClass (top 4) 0)
def e__law_start : DEnv → Ot :=
 vSeq (vSet 2 (vC (.int 0)))
 (vSeq (vIf (vB (vO2 fLt (.s 1) (.e (vON fLen [(.s 0)])))) (vSet 2 (vON fAbs [(.e (vO2 fIx (.s 0) (.s 1)))])) (vSkip))
 (vRetF (vLst (vCons (vVar 2) (vCons (vO2 fMul (.e (vC (.int 1000))) (.s 1)) (vNil))))))
def m__law_start (ds : List D) : Fo := run none 1 e__law_start ds
def e__law_draw : DEnv → Ot :=
 vSeq (vSet 2 (vO2 fIx (.s 0) (.e (vC (.int 0)))))
 (vSeq (vSetIx 0 (vO2 fAdd (.e (vO2 fIx (.s 0) (.e (vC (.int 1))))) (.e (vC (.int 1)))) (vC (.int 1)))
 (vSeq (vIf (vB (vO2 fGe (.s 2) (.e (vO2 fPow (.e (vC (.int 10))) (.e (vC (.int 18))))))) (vSeq (vSetIx 0 (vO2 fFdiv (.s 2) (.s 1)) (vC (.int 0)))
 (vRet (vO2 fMod (.e (vON fInt [(.s 2)])) (.s 1)))) (vSkip))
 (vSeq (vSet 3 (vO2 fMod (.e (vON fInt [(.e (vO2 fMul (.e (vO2 fAdd (.e (vO2 fAdd (.s 2) (.e (vO2 fMul (.e (vC (.int 104729))) (.e (vO2 fIx (.s 0) (.e (vC (.int 1))))))))) (.e (vC (.int 1))))) (.e (vC (.int 48271)))))])) (.e (vC (.int 2147483647)))))
 (vSeq (vSet 3 (vO2 fMod (.e (vON fInt [(.e (vO2 fMul (.s 3) (.e (vO2 fAdd (.e (vO2 fFdiv (.s 3) (.e (vC (.int 1009))))) (.e (vC (.int 69621)))))))])) (.e (vC (.int 2147483647)))))
 (vSeq (vSet 3 (vO2 fMod (.e (vON fInt [(.e (vO2 fMul (.s 3) (.e (vO2 fAdd (.e (vO2 fFdiv (.s 3) (.e (vC (.int 2003))))) (.e (vC (.int 40692)))))))])) (.e (vC (.int 2147483399)))))
 (vRet (vO2 fMod (.e (vON fInt [(.e (vO2 fFdiv (.s 3) (.e (vC (.int 64)))))])) (.s 1))))))))
def m__law_draw (ds : List D) : Fo := run (some 0) 2 e__law_draw ds
def e__law_number : DEnv → Ot :=
 vSeq (vIf (vB (vO2 fGe (.e (vO2 fIx (.s 0) (.e (vC (.int 0))))) (.e (vO2 fPow (.e (vC (.int 10))) (.e (vC (.int 18))))))) (vRet (vO2 fSub (.e (wCall 2 (some 0) m__law_draw [] (cSlot 0 (cVal (vO2 fAdd (.e (vO2 fMul (.e (vC (.int 2))) (.s 1))) (.e (vC (.int 1)))) (cNil))))) (.s 1))) (vSkip))
 (vSeq (vSet 2 (wCall 2 (some 0) m__law_draw [] (cSlot 0 (cVal (vC (.int 4)) (cNil)))))
 (vSeq (vSet 3 (vO2 fSub (.e (wCall 2 (some 0) m__law_draw [] (cSlot 0 (cVal (vC (.int 25)) (cNil))))) (.e (vC (.int 12)))))
 (vSeq (vSet 4 (wCall 2 (some 0) m__law_draw [] (cSlot 0 (cVal (vO2 fPow (.e (vC (.int 10))) (.e (vC (.int 7)))) (cNil)))))
 (vSeq (vIf (vB (vO2 fEq (.s 2) (.e (vC (.int 0))))) (vRet (vVar 3)) (vSkip))
 (vSeq (vIf (vB (vO2 fEq (.s 2) (.e (vC (.int 1))))) (vRet (vO2 fSub (.e (vO2 fMod (.e (vON fInt [(.s 4)])) (.e (vC (.int 1000))))) (.e (vC (.int 500))))) (vSkip))
 (vSeq (vIf (vB (vO2 fEq (.s 2) (.e (vC (.int 2))))) (vRet (vO2 fMul (.s 3) (.e (vO2 fAdd (.s 4) (.e (vC (.int 1))))))) (vSkip))
 (vRet (vO2 fAdd (.e (vO2 fMul (.s 3) (.e (vO2 fPow (.e (vO2 fAdd (.s 4) (.e (vC (.int 1))))) (.e (vC (.int 5))))))) (.s 4)))))))))
def m__law_number (ds : List D) : Fo := run (some 0) 3 e__law_number ds
def e_is_integer : DEnv → Ot :=
 vRet (vAndV (vON (fIsi [24]) [(.s 0), (.e (vC (.cls (.b "int"))))]) (vNotV (vON (fIsi [24]) [(.s 0), (.e (vC (.cls (.b "bool"))))])))
def m_is_integer (ds : List D) : Fo := run none 0 e_is_integer ds
def e_Share_init : DEnv → Ot :=
 vSeq (vIf (vNot (vTru (.e (wCall 1 none m_is_integer [] (cVal (vVar 1) (cNil)))))) (vRaise2 1 ("part" : Str) isStr (vC (.str ("top" : Str)))) (vSkip))
 (vSeq (vIf (vOr (vNot (vTru (.e (wCall 1 none m_is_integer [] (cVal (vVar 2) (cNil)))))) (vB (vO2 fEq (.s 2) (.e (vC (.int 0)))))) (vRaise2 1 ("part" : Str) isStr (vC (.str ("bottom" : Str)))) (vSkip))
 (vSeq (vSet 3 (vON fGcd [(.s 1), (.s 2)]))
 (vSeq (vIf (vB (vO2 fLt (.s 2) (.e (vC (.int 0))))) (vSet 3 (vO1 fNeg (.s 3))) (vSkip))
 (vSeq (vSetFld 0 [24] ("top" : Str) (vO2 fFdivG (.s 1) (.s 3)))
 (vSetFld 0 [24] ("bottom" : Str) (vO2 fFdivG (.s 2) (.s 3)))))))
def m_Share_init (ds : List D) : Fo := run (some 0) 1 e_Share_init ds
def lb__law_gcd_1 : DEnv → Ot :=
 vPost [2, 3] (vSeq (vIf (vB (vO2 fEq (.s 1) (.e (vC (.int 0))))) (vBrk) (vSkip))
 (vSeq (vSet 3 (vO2 fMod (.e (vON fInt [(.s 0)])) (.s 1)))
 (vSeq (vSet 0 (vVar 1))
 (vSet 1 (vVar 3)))))
def e__law_gcd : DEnv → Ot :=
 vSeq (vSet 0 (vON fAbs [(.s 0)]))
 (vSeq (vSet 1 (vON fAbs [(.s 1)]))
 (vSeq (vFor (vRng1 (vC (.int 1000))) (tName 2) lb__law_gcd_1)
 (vRet (vVar 0))))
def m__law_gcd (ds : List D) : Fo := run none 2 e__law_gcd ds
def e_parts_of : DEnv → Ot :=
 vSeq (vIf (vTru (.e (vON (fIsi [24]) [(.s 0), (.e (vC (.cls (.o 24))))]))) (vRet (vTup (vCons (vFld [24] ("top" : Str) (.s 0)) (vCons (vFld [24] ("bottom" : Str) (.s 0)) (vNil))))) (vSkip))
 (vRet (vTup (vCons (vVar 0) (vCons (vC (.int 1)) (vNil)))))
def m_parts_of (ds : List D) : Fo := run none 0 e_parts_of ds
def e_is_number : DEnv → Ot :=
 vRet (vOrV (wCall 1 none m_is_integer [] (cVal (vVar 0) (cNil))) (vON (fIsi [24]) [(.s 0), (.e (vC (.cls (.o 24))))]))
def m_is_number (ds : List D) : Fo := run none 0 e_is_number ds
def e_Share___eq__ : DEnv → Ot :=
 vSeq (vIf (vNot (vTru (.e (wCall 1 none m_is_number [] (cVal (vVar 1) (cNil)))))) (vBadS) (vSkip))
 (vSeq (vAsg (wCall 1 none m_parts_of [] (cVal (vVar 1) (cNil))) (tgTup 2 (tgCons (tName 2) (tgCons (tName 3) (tgNil)))))
 (vRet (vAndV (vO2 fEq (.e (vFld [24] ("top" : Str) (.s 0))) (.s 2)) (vO2 fEq (.e (vFld [24] ("bottom" : Str) (.s 0))) (.s 3)))))
def ct_Share___eq__ : DEnv → Rs Bool :=
 vNot (vTru (.e (wCall 1 none m_is_number [] (cVal (vVar 1) (cNil)))))
def cond_Share___eq__ : List D → Bool := condNI 2 ct_Share___eq__
def m_Share___eq__ (ds : List D) : Fo := run none 2 e_Share___eq__ ds
def e_Share___lt__ : DEnv → Ot :=
 vSeq (vIf (vNot (vTru (.e (wCall 1 none m_is_number [] (cVal (vVar 1) (cNil)))))) (vBadS) (vSkip))
 (vSeq (vAsg (wCall 1 none m_parts_of [] (cVal (vVar 1) (cNil))) (tgTup 2 (tgCons (tName 2) (tgCons (tName 3) (tgNil)))))
 (vRet (vO2 fLt (.e (vO2 fMul (.e (vFld [24] ("top" : Str) (.s 0))) (.s 3))) (.e (vO2 fMul (.s 2) (.e (vFld [24] ("bottom" : Str) (.s 0))))))))
def m_Share___lt__ (ds : List D) : Fo := run none 2 e_Share___lt__ ds
def e_Share___gt__ : DEnv → Ot :=
 vSeq (vIf (vNot (vTru (.e (wCall 1 none m_is_number [] (cVal (vVar 1) (cNil)))))) (vBadS) (vSkip))
 (vSeq (vAsg (wCall 1 none m_parts_of [] (cVal (vVar 1) (cNil))) (tgTup 2 (tgCons (tName 2) (tgCons (tName 3) (tgNil)))))
 (vRet (vO2 fGt (.e (vO2 fMul (.e (vFld [24] ("top" : Str) (.s 0))) (.s 3))) (.e (vO2 fMul (.s 2) (.e (vFld [24] ("bottom" : Str) (.s 0))))))))
def m_Share___gt__ (ds : List D) : Fo := run none 2 e_Share___gt__ ds
def e_Share___le__ : DEnv → Ot :=
 vSeq (vIf (vNot (vTru (.e (wCall 1 none m_is_number [] (cVal (vVar 1) (cNil)))))) (vBadS) (vSkip))
 (vSeq (vAsg (wCall 1 none m_parts_of [] (cVal (vVar 1) (cNil))) (tgTup 2 (tgCons (tName 2) (tgCons (tName 3) (tgNil)))))
 (vRet (vO2 fLe (.e (vO2 fMul (.e (vFld [24] ("top" : Str) (.s 0))) (.s 3))) (.e (vO2 fMul (.s 2) (.e (vFld [24] ("bottom" : Str) (.s 0))))))))
def m_Share___le__ (ds : List D) : Fo := run none 2 e_Share___le__ ds
def e_Share___ge__ : DEnv → Ot :=
 vSeq (vIf (vNot (vTru (.e (wCall 1 none m_is_number [] (cVal (vVar 1) (cNil)))))) (vBadS) (vSkip))
 (vSeq (vAsg (wCall 1 none m_parts_of [] (cVal (vVar 1) (cNil))) (tgTup 2 (tgCons (tName 2) (tgCons (tName 3) (tgNil)))))
 (vRet (vO2 fGe (.e (vO2 fMul (.e (vFld [24] ("top" : Str) (.s 0))) (.s 3))) (.e (vO2 fMul (.s 2) (.e (vFld [24] ("bottom" : Str) (.s 0))))))))
def m_Share___ge__ (ds : List D) : Fo := run none 2 e_Share___ge__ ds
def lb__law_compares_1 : DEnv → Ot :=
 vPost [4] (vIf (vNot (vTru (.e (vON (fIsi [24]) [(.s 4), (.e (vC (.cls (.b "bool"))))])))) (vRet (vC (.bl false))) (vSkip))
def e__law_compares : DEnv → Ot :=
 vSeq (vIf (vB (vO2 (fCmpO 24 m_Share___eq__ m_Share___eq__ fEq) (.s 0) (.s 1))) (vIf (vNot (vTru (.s 3))) (vRet (vC (.bl false))) (vSkip)) (vIf (vTru (.s 3)) (vRet (vC (.bl false))) (vSkip)))
 (vSeq (vFor (vSeqI (vLst (vCons (vO2 (fCmpO 24 m_Share___eq__ m_Share___eq__ fEq) (.s 0) (.s 1)) (vCons (vO2 (fNeO 24 m_Share___eq__ m_Share___eq__ fNe) (.s 0) (.s 1)) (vCons (vO2 (fCmpO 24 m_Share___lt__ m_Share___gt__ fLt) (.s 0) (.s 1)) (vCons (vO2 (fCmpO 24 m_Share___le__ m_Share___ge__ fLe) (.s 0) (.s 1)) (vCons (vO2 (fCmpO 24 m_Share___gt__ m_Share___lt__ fGt) (.s 0) (.s 1)) (vCons (vO2 (fCmpO 24 m_Share___ge__ m_Share___le__ fGe) (.s 0) (.s 1)) (vNil))))))))) (tName 4) lb__law_compares_1)
 (vSeq (vIf (vOr (vB (vO2 fEq (.e (vO2 (fNeO 24 m_Share___eq__ m_Share___eq__ fNe) (.s 0) (.s 1))) (.s 3))) (vOr (vB (vO2 fNe (.e (vO2 (fCmpO 24 m_Share___lt__ m_Share___gt__ fLt) (.s 0) (.s 1))) (.s 2))) (vB (vO2 fNe (.e (vO2 (fCmpO 24 m_Share___gt__ m_Share___lt__ fGt) (.s 0) (.s 1))) (.e (vAndV (vNotV (vVar 2)) (vNotV (vVar 3)))))))) (vRet (vC (.bl false))) (vSkip))
 (vRet (vAndV (vO2 fEq (.e (vO2 (fCmpO 24 m_Share___le__ m_Share___ge__ fLe) (.s 0) (.s 1))) (.e (vOrV (vVar 2) (vVar 3)))) (vO2 fEq (.e (vO2 (fCmpO 24 m_Share___ge__ m_Share___le__ fGe) (.s 0) (.s 1))) (.e (vNotV (vVar 2))))))))
def m__law_compares (ds : List D) : Fo := run none 1 e__law_compares ds
def e_Share___str__ : DEnv → Ot :=
 vSeq (vIf (vB (vO2 fEq (.e (vFld [24] ("bottom" : Str) (.s 0))) (.e (vC (.int 1))))) (vRet (vON fStrI [(.e (vFld [24] ("top" : Str) (.s 0)))])) (vSkip))
 (vRet (vFs [vFmt (vFld [24] ("top" : Str) (.s 0)), vC (.str ("/" : Str)), vFmt (vFld [24] ("bottom" : Str) (.s 0))] PySem.Str.empty))
def m_Share___str__ (ds : List D) : Fo := run none 0 e_Share___str__ ds
def tl_law_22 : DEnv → Ot :=
 vIf (vOr (vB (vO2 fNe (.e (vON (fStrO 24 m_Share___str__) [(.s 11)])) (.s 16))) (vB (vO2 fNe (.e (vON (fStrO 24 m_Share___str__) [(.e (wMake 24 3 m_Share_init [.int 1] (vCons (vVar 9) (vNil))))])) (.e (vON fStrI [(.s 9)]))))) (vRet (vC (.bl false))) (vSkip)
def tl_law_21 : DEnv → Ot :=
 vSeq (vIf (vB (vO2 fNe (.e (vO2 fFdiv (.s 6) (.s 15))) (.e (vC (.int 1))))) (vSet 16 (vO2 fAdd (.e (vO2 fAdd (.s 16) (.e (vC (.str ("/" : Str)))))) (.e (vON fStrI [(.e (vO2 fFdiv (.s 6) (.s 15)))])))) (vSkip))
 (tl_law_22)
def tl_law_20 : DEnv → Ot :=
 vSeq (vSet 16 (vON fStrI [(.e (vO2 fFdiv (.s 5) (.s 15)))]))
 (tl_law_21)
def tl_law_19 : DEnv → Ot :=
 vSeq (vSet 15 (wCall 2 none m__law_gcd [] (cVal (vVar 5) (cVal (vVar 6) (cNil)))))
 (tl_law_20)
def tl_law_18 : DEnv → Ot :=
 vSeq (vIf (vOr (vB (vO2 (fEqNI 24 cond_Share___eq__ (fCmpO 24 m_Share___eq__ m_Share___eq__ fEq)) (.s 11) (.s 4))) (vOr (vB (vO2 (fEqNI 24 cond_Share___eq__ (fCmpO 24 m_Share___eq__ m_Share___eq__ fEq)) (.s 4) (.s 11))) (vOr (vNot (vB (vO2 (fNeNI 24 cond_Share___eq__ (fNeO 24 m_Share___eq__ m_Share___eq__ fNe)) (.s 11) (.s 4)))) (vOr (vB (vO2 (fEqNI 24 cond_Share___eq__ (fCmpO 24 m_Share___eq__ m_Share___eq__ fEq)) (.e (wMake 24 3 m_Share_init [.int 1] (vCons (vC (.int 1)) (vNil)))) (.e (vC (.bl true))))) (vB (vO2 (fEqNI 24 cond_Share___eq__ (fCmpO 24 m_Share___eq__ m_Share___eq__ fEq)) (.e (wMake 24 3 m_Share_init [.int 1] (vCons (vC (.int 0)) (vNil)))) (.e (vC (.bl false))))))))) (vRet (vC (.bl false))) (vSkip))
 (tl_law_19)
def tl_law_17 : DEnv → Ot :=
 vSeq (vIf (vNot (vTru (.e (wCall 4 none m__law_compares [] (cVal (wMake 24 3 m_Share_init [.int 1] (vCons (vVar 9) (vNil))) (cVal (vVar 9) (cVal (vC (.bl false)) (cVal (vC (.bl true)) (cNil))))))))) (vRet (vC (.bl false))) (vSkip))
 (tl_law_18)
def tl_law_16 : DEnv → Ot :=
 vSeq (vIf (vOr (vNot (vTru (.e (wCall 4 none m__law_compares [] (cVal (vVar 11) (cVal (vVar 9) (cVal (vO2 fLt (.s 5) (.e (vO2 fMul (.s 9) (.s 6)))) (cVal (vO2 fEq (.s 5) (.e (vO2 fMul (.s 9) (.s 6)))) (cNil))))))))) (vNot (vTru (.e (wCall 4 none m__law_compares [] (cVal (vVar 9) (cVal (vVar 11) (cVal (vO2 fLt (.e (vO2 fMul (.s 9) (.s 6))) (.s 5)) (cVal (vO2 fEq (.s 5) (.e (vO2 fMul (.s 9) (.s 6)))) (cNil)))))))))) (vRet (vC (.bl false))) (vSkip))
 (tl_law_17)
def tl_law_15 : DEnv → Ot :=
 vSeq (vIf (vNot (vTru (.e (wCall 4 none m__law_compares [] (cVal (vVar 11) (cVal (vVar 12) (cVal (vO2 fLt (.s 13) (.s 14)) (cVal (vO2 fEq (.s 13) (.s 14)) (cNil))))))))) (vRet (vC (.bl false))) (vSkip))
 (tl_law_16)
def tl_law_14 : DEnv → Ot :=
 vSeq (vIf (vB (vO2 fLt (.s 8) (.e (vC (.int 0))))) (vSet 14 (vO1 fNeg (.s 14))) (vSkip))
 (tl_law_15)
def tl_law_13 : DEnv → Ot :=
 vSeq (vSet 14 (vO2 fMul (.s 6) (.s 7)))
 (tl_law_14)
def tl_law_12 : DEnv → Ot :=
 vSeq (vSet 13 (vO2 fMul (.s 5) (.e (vON fAbs [(.s 8)]))))
 (tl_law_13)
def tl_law_11 : DEnv → Ot :=
 vSeq (vSet 12 (wMake 24 3 m_Share_init [] (vCons (vVar 7) (vCons (vVar 8) (vNil)))))
 (tl_law_12)
def tl_law_10 : DEnv → Ot :=
 vSeq (vSet 11 (wMake 24 3 m_Share_init [] (vCons (vVar 5) (vCons (vVar 6) (vNil)))))
 (tl_law_11)
def tl_law_9 : DEnv → Ot :=
 vSeq (vPost [10] (vIf (vB (vO2 fEq (.s 3) (.e (vC (.int 0))))) (vSeq (vSet 10 (vO2 fAdd (.e (vC (.int 1))) (.e (wCall 2 (some 0) m__law_draw [] (cSlot 2 (cVal (vC (.int 9)) (cNil)))))))
 (vSeq (vSet 7 (vO2 fMul (.e (vO1 fNeg (.s 5))) (.s 10)))
 (vSet 8 (vO2 fMul (.e (vO1 fNeg (.s 6))) (.s 10))))) (vSkip)))
 (tl_law_10)
def tl_law_8 : DEnv → Ot :=
 vSeq (vSet 9 (wCall 2 (some 0) m__law_number [] (cSlot 2 (cVal (vO2 fPow (.e (vC (.int 10))) (.e (vC (.int 50)))) (cNil)))))
 (tl_law_9)
def tl_law_7 : DEnv → Ot :=
 vSeq (vSet 8 (vO2 fAdd (.e (vC (.int 1))) (.e (vON fAbs [(.e (wCall 2 (some 0) m__law_number [] (cSlot 2 (cVal (vO2 fPow (.e (vC (.int 10))) (.e (vC (.int 50)))) (cNil)))))]))))
 (tl_law_8)
def tl_law_6 : DEnv → Ot :=
 vSeq (vSet 7 (wCall 2 (some 0) m__law_number [] (cSlot 2 (cVal (vO2 fPow (.e (vC (.int 10))) (.e (vC (.int 50)))) (cNil)))))
 (tl_law_7)
def tl_law_5 : DEnv → Ot :=
 vSeq (vSet 6 (vO2 fAdd (.e (vC (.int 1))) (.e (vON fAbs [(.e (wCall 2 (some 0) m__law_number [] (cSlot 2 (cVal (vO2 fPow (.e (vC (.int 10))) (.e (vC (.int 50)))) (cNil)))))]))))
 (tl_law_6)
def tl_law_4 : DEnv → Ot :=
 vSeq (vSet 5 (wCall 2 (some 0) m__law_number [] (cSlot 2 (cVal (vO2 fPow (.e (vC (.int 10))) (.e (vC (.int 50)))) (cNil)))))
 (tl_law_5)
def tl_law_3 : DEnv → Ot :=
 vSeq (vSet 4 (vO2 fIx (.e (vLst (vCons (vC .non) (vCons (vC (.str ("1" : Str))) (vCons (vC (.str ("0" : Str))) (vCons (vC (.bl true)) (vCons (vC (.bl false)) (vCons (vLst (vNil)) (vCons (vTup (vCons (vC (.int 1)) (vNil))) (vCons (vC (.dk [])) (vCons (vC (.str ("" : Str))) (vCons (vTup (vCons (vC (.int 0)) (vCons (vC (.int 1)) (vNil)))) (vNil))))))))))))) (.e (wCall 2 (some 0) m__law_draw [] (cSlot 2 (cVal (vC (.int 10)) (cNil)))))))
 (tl_law_4)
def tl_law_2 : DEnv → Ot :=
 vSeq (vSet 3 (wCall 2 (some 0) m__law_draw [] (cSlot 2 (cVal (vC (.int 3)) (cNil)))))
 (tl_law_3)
def lb_law_1 : DEnv → Ot :=
 vPost [1, 2, 3, 4, 5, 6, 7, 8, 9, 10, 11, 12, 13, 14, 15, 16] (vSeq (vSetF 2 (wCallF 2 none m__law_start [] (cVal (vVar 0) (cVal (vVar 1) (cNil)))))
 (tl_law_2))
def e_law : DEnv → Ot :=
 vSeq (vFor (vRng1 (vO2 fAdd (.e (vC (.int 1))) (.e (vON fLen [(.e (vSl fSlA (.s 0) vNoP (vPart (vC (.int 20)))))])))) (tName 1) lb_law_1)
 (vRet (vC (.bl true)))
def m_law (ds : List D) : Fo := run none 16 e_law ds
@[simp] theorem lit_0 : PySem.PyData.canLay0 (.str ("top" : Str)) = true := by decide +kernel
@[simp] theorem lis_0 : isStr (.str ("top" : Str)) = true := by decide +kernel
@[simp] theorem lit_1 : PySem.PyData.canLay0 (.str ("bottom" : Str)) = true := by decide +kernel
@[simp] theorem lis_1 : isStr (.str ("bottom" : Str)) = true := by decide +kernel
@[simp] theorem lit_2 : PySem.PyData.canLay0 (.str ("/" : Str)) = true := by decide +kernel
@[simp] theorem lis_2 : isStr (.str ("/" : Str)) = true := by decide +kernel
@[simp] theorem lit_3 : PySem.PyData.canLay0 (.str ("1" : Str)) = true := by decide +kernel
@[simp] theorem lis_3 : isStr (.str ("1" : Str)) = true := by decide +kernel
@[simp] theorem lit_4 : PySem.PyData.canLay0 (.str ("0" : Str)) = true := by decide +kernel
@[simp] theorem lis_4 : isStr (.str ("0" : Str)) = true := by decide +kernel
@[simp] theorem lit_5 : PySem.PyData.canLay0 (.str ("" : Str)) = true := by decide +kernel
@[simp] theorem lis_5 : isStr (.str ("" : Str)) = true := by decide +kernel
section
variable {P : Program} {w : World} {K : PySem.W.Frag} {mg : Str → Option Value} {base : Heap} {kap : Kp}
theorem sc__law_start : FnScope [("_law_script" : Str), ("_law_k" : Str), ("_law_cell" : Str)] [("_law_script" : Str), ("_law_k" : Str)] (defScope s__law_start) := ⟨rfl, rfl, rfl, by decide +kernel, rfl, by decide +kernel, by decide +kernel⟩
theorem ok__law_start {f : Addr} {fd : FuncData} (F : Fun K ("_law_start" : Str) ("_law_start" : Str) s__law_start f fd) (n_len : mg ("len" : Str) = none) (n_abs : mg ("abs" : Str) = none) :
  FnG P w K mg base (L2.CX P w) 1 f fd [("_law_script" : Str), ("_law_k" : Str)] (spD K kap 2 none m__law_start) :=
  DL.Fun.dl F (N := [("_law_script" : Str), ("_law_k" : Str), ("_law_cell" : Str)]) (n := 2) (nl := 1) (e := e__law_start) sc__law_start rfl rfl fun cdv A outer s H E hr tk po => ⟨_, (jssCons (jSet 2 sc__law_start.nd jInt)
 (jssCons (jIf (jBc op_lt (spI fun _ _ _ => .bl _) (jSlot 1) (JE.o (jCB call_lenA sp_len n_len bt_len (josCons (jSlot 0) josNil)))) (jssOne (jSet 2 sc__law_start.nd (jCB call_abs sp_abs n_abs bt_abs (josCons (JE.o (jItem (jSlot 0) (jSlot 1))) josNil)))) jssNil)
 (jssOne (jRetF (jLst (jaCons (jVar 2) (jaCons (jMul (JE.o jInt) (jSlot 1)) jaNil)))))))⟩
theorem sc__law_draw : FnScope [("_law_state" : Str), ("_law_many" : Str), ("_law_number_here" : Str), ("_law_mixed" : Str)] [("_law_state" : Str), ("_law_many" : Str)] (defScope s__law_draw) := ⟨rfl, rfl, rfl, by decide +kernel, rfl, by decide +kernel, by decide +kernel⟩
theorem ok__law_draw {f : Addr} {fd : FuncData} (F : Fun K ("_law_draw" : Str) ("_law_draw" : Str) s__law_draw f fd) (n_int : mg ("int" : Str) = none) :
  FnG P w K mg base (L2.CX P w) 1 f fd [("_law_state" : Str), ("_law_many" : Str)] (spD K kap 2 (some 0) m__law_draw) :=
  DL.Fun.dl F (N := [("_law_state" : Str), ("_law_many" : Str), ("_law_number_here" : Str), ("_law_mixed" : Str)]) (n := 2) (nl := 2) (e := e__law_draw) sc__law_draw rfl rfl fun cdv A outer s H E hr tk po => ⟨_, (jssCons (jSet 2 sc__law_draw.nd (jItem (jSlot 0) (JE.o jInt)))
 (jssCons (jSetIx 0 (jAdd (JE.o (jItem (jSlot 0) (JE.o jInt))) (JE.o jInt)) jInt)
 (jssCons (jIf (jBc op_ge (spI fun _ _ _ => .bl _) (jSlot 2) (JE.o (jPow (JE.o jInt) (JE.o jInt)))) (jssCons (jSetIx 0 (jFdiv (jSlot 2) (jSlot 1)) jInt)
 (jssOne (jRet (jMod (JE.o (jCT call_int1 sp_int n_int bt_int (josCons (jSlot 2) josNil))) (jSlot 1))))) jssNil)
 (jssCons (jSet 3 sc__law_draw.nd (jMod (JE.o (jCT call_int1 sp_int n_int bt_int (josCons (JE.o (jMul (JE.o (jAdd (JE.o (jAdd (jSlot 2) (JE.o (jMul (JE.o jInt) (JE.o (jItem (jSlot 0) (JE.o jInt))))))) (JE.o jInt))) (JE.o jInt))) josNil))) (JE.o jInt)))
 (jssCons (jSet 3 sc__law_draw.nd (jMod (JE.o (jCT call_int1 sp_int n_int bt_int (josCons (JE.o (jMul (jSlot 3) (JE.o (jAdd (JE.o (jFdiv (jSlot 3) (JE.o jInt))) (JE.o jInt))))) josNil))) (JE.o jInt)))
 (jssCons (jSet 3 sc__law_draw.nd (jMod (JE.o (jCT call_int1 sp_int n_int bt_int (josCons (JE.o (jMul (jSlot 3) (JE.o (jAdd (JE.o (jFdiv (jSlot 3) (JE.o jInt))) (JE.o jInt))))) josNil))) (JE.o jInt)))
 (jssOne (jRet (jMod (JE.o (jCT call_int1 sp_int n_int bt_int (josCons (JE.o (jFdiv (jSlot 3) (JE.o jInt))) josNil))) (jSlot 1))))))))))⟩
theorem sc__law_number : FnScope [("_law_state" : Str), ("_law_limit" : Str), ("_law_kind" : Str), ("_law_small" : Str), ("_law_large" : Str)] [("_law_state" : Str), ("_law_limit" : Str)] (defScope s__law_number) := ⟨rfl, rfl, rfl, by decide +kernel, rfl, by decide +kernel, by decide +kernel⟩
theorem ok__law_number {f : Addr} {fd : FuncData} (F : Fun K ("_law_number" : Str) ("_law_number" : Str) s__law_number f fd) (g__law_draw : GF P w K mg base kap ("_law_draw" : Str) 1 2 (some 0) m__law_draw []) (n_int : mg ("int" : Str) = none) :
  FnG P w K mg base (L2.CX P w) 2 f fd [("_law_state" : Str), ("_law_limit" : Str)] (spD K kap 2 (some 0) m__law_number) :=
  DL.Fun.dl F (N := [("_law_state" : Str), ("_law_limit" : Str), ("_law_kind" : Str), ("_law_small" : Str), ("_law_large" : Str)]) (n := 2) (nl := 3) (e := e__law_number) sc__law_number rfl rfl fun cdv A outer s H E hr tk po => ⟨_, (jssCons (jIf (jBc op_ge (spI fun _ _ _ => .bl _) (JE.o (jItem (jSlot 0) (JE.o jInt))) (JE.o (jPow (JE.o jInt) (JE.o jInt)))) (jssOne (jRet (jSub (JE.o (gCall g__law_draw (hr.mono (by decide)) tk (jcSlot 0 (jcVal (jAdd (JE.o (jMul (JE.o jInt) (jSlot 1))) (JE.o jInt)) jcNil)))) (jSlot 1)))) jssNil)
 (jssCons (jSet 2 sc__law_number.nd (gCall g__law_draw (hr.mono (by decide)) tk (jcSlot 0 (jcVal jInt jcNil))))
 (jssCons (jSet 3 sc__law_number.nd (jSub (JE.o (gCall g__law_draw (hr.mono (by decide)) tk (jcSlot 0 (jcVal jInt jcNil)))) (JE.o jInt)))
 (jssCons (jSet 4 sc__law_number.nd (gCall g__law_draw (hr.mono (by decide)) tk (jcSlot 0 (jcVal (jPow (JE.o jInt) (JE.o jInt)) jcNil))))
 (jssCons (jIf (jBc (op_eqD (uu hr)) sp_eq (jSlot 2) (JE.o jInt)) (jssOne (jRet (jVar 3))) jssNil)
 (jssCons (jIf (jBc (op_eqD (uu hr)) sp_eq (jSlot 2) (JE.o jInt)) (jssOne (jRet (jSub (JE.o (jMod (JE.o (jCT call_int1 sp_int n_int bt_int (josCons (jSlot 4) josNil))) (JE.o jInt))) (JE.o jInt)))) jssNil)
 (jssCons (jIf (jBc (op_eqD (uu hr)) sp_eq (jSlot 2) (JE.o jInt)) (jssOne (jRet (jMul (jSlot 3) (JE.o (jAdd (jSlot 4) (JE.o jInt)))))) jssNil)
 (jssOne (jRet (jAdd (JE.o (jMul (jSlot 3) (JE.o (jPow (JE.o (jAdd (jSlot 4) (JE.o jInt))) (JE.o jInt))))) (jSlot 4)))))))))))⟩
theorem sc_is_integer : FnScope [("thing" : Str)] [("thing" : Str)] (defScope s_is_integer) := ⟨rfl, rfl, rfl, by decide +kernel, rfl, by decide +kernel, by decide +kernel⟩
theorem ok_is_integer {f : Addr} {fd : FuncData} (F : Fun K ("is_integer" : Str) ("is_integer" : Str) s_is_integer f fd) (kk : KitK K kap [24]) (n_int : mg ("int" : Str) = none) (n_isinstance : mg ("isinstance" : Str) = none) (n_bool : mg ("bool" : Str) = none) :
  FnG P w K mg base (L2.CX P w) 1 f fd [("thing" : Str)] (spD K kap 1 none m_is_integer) :=
  DL.Fun.dl F (N := [("thing" : Str)]) (n := 1) (nl := 0) (e := e_is_integer) sc_is_integer rfl rfl fun cdv A outer s H E hr tk po => ⟨_, (jssOne (jRet (jAndV (jCB call_isiA (sp_isi kk) n_isinstance bt_isinstance (josCons (jSlot 0) (josCons (JE.o (jTy n_int bt_int)) josNil))) (jOneV (jNotV (jCB call_isiA (sp_isi kk) n_isinstance bt_isinstance (josCons (jSlot 0) (josCons (JE.o (jTy n_bool bt_bool)) josNil))))))))⟩
theorem sc_Share_init : FnScope [("self" : Str), ("top" : Str), ("bottom" : Str), ("common" : Str)] [("self" : Str), ("top" : Str), ("bottom" : Str)] (defScope s_Share_init) := ⟨rfl, rfl, rfl, by decide +kernel, rfl, by decide +kernel, by decide +kernel⟩
theorem ok_Share_init {f : Addr} {fd : FuncData} (F : FunD K ("__init__" : Str) ("Share.__init__" : Str) (defArgs s_Share_init) (defBody s_Share_init) (defScope s_Share_init) [.int 1] [] f fd) (g_is_integer : GF P w K mg base kap ("is_integer" : Str) 1 1 none m_is_integer []) (x_BadShare : GX2 P w K mg kap ("BadShare" : Str) 1 ("part" : Str) okStr) (b_gcd : mg ("gcd" : Str) = some (.builtin "math.gcd")) (a_Share_top : Cls K (kap 24) ∧ NoAttr K (kap 24) ("top" : Str)) (a_Share_bottom : Cls K (kap 24) ∧ NoAttr K (kap 24) ("bottom" : Str)) :
  FnG P w K mg base (L2.CX P w) 2 f fd [("self" : Str), ("top" : Str), ("bottom" : Str)] (spD K kap 3 (some 0) m_Share_init) :=
  DL.FunD.dl F (N := [("self" : Str), ("top" : Str), ("bottom" : Str), ("common" : Str)]) (n := 3) (nl := 1) (e := e_Share_init) sc_Share_init rfl rfl fun cdv A outer s H E hr tk po => ⟨_, (jssCons (jIf (jtNot (jTru (JE.o (gCall g_is_integer (hr.mono (by decide)) tk (jcVal (jVar 1) jcNil))))) (jssOne (gRaise2 x_BadShare ok_str (hr.mono (by decide)) tk jStr)) jssNil)
 (jssCons (jIf (JW.pt (jwOr (jtNot (jTru (JE.o (gCall g_is_integer (hr.mono (by decide)) tk (jcVal (jVar 2) jcNil))))) (jwOr1 (jBc (op_eqD (uu hr)) sp_eq (jSlot 2) (JE.o jInt))))) (jssOne (gRaise2 x_BadShare ok_str (hr.mono (by decide)) tk jStr)) jssNil)
 (jssCons (jSet 3 sc_Share_init.nd (jCBm cr_gcd sp_gcd b_gcd (josCons (jSlot 1) (josCons (jSlot 2) josNil))))
 (jssCons (jIf (jBc op_lt (spI fun _ _ _ => .bl _) (jSlot 2) (JE.o jInt)) (jssOne (jSet 3 sc_Share_init.nd (jNeg (jSlot 3)))) jssNil)
 (jssCons (jSetFld 0 [24] (more_in a_Share_top none_in) (jFdivG (jSlot 1) (jSlot 3)))
 (jssOne (jSetFld 0 [24] (more_in a_Share_bottom none_in) (jFdivG (jSlot 2) (jSlot 3)))))))))⟩
theorem sc__law_gcd : FnScope [("_law_one" : Str), ("_law_other" : Str), ("_law_k" : Str), ("_law_rest" : Str)] [("_law_one" : Str), ("_law_other" : Str)] (defScope s__law_gcd) := ⟨rfl, rfl, rfl, by decide +kernel, rfl, by decide +kernel, by decide +kernel⟩
theorem ok__law_gcd {f : Addr} {fd : FuncData} (F : Fun K ("_law_gcd" : Str) ("_law_gcd" : Str) s__law_gcd f fd) (n_abs : mg ("abs" : Str) = none) (n_range : mg ("range" : Str) = none) (n_int : mg ("int" : Str) = none) :
  FnG P w K mg base (L2.CX P w) 1 f fd [("_law_one" : Str), ("_law_other" : Str)] (spD K kap 2 none m__law_gcd) :=
  DL.Fun.dl F (N := [("_law_one" : Str), ("_law_other" : Str), ("_law_k" : Str), ("_law_rest" : Str)]) (n := 2) (nl := 2) (e := e__law_gcd) sc__law_gcd rfl rfl fun cdv A outer s H E hr tk po => ⟨_, (jssCons (jSet 0 sc__law_gcd.nd (jCB call_abs sp_abs n_abs bt_abs (josCons (jSlot 0) josNil)))
 (jssCons (jSet 1 sc__law_gcd.nd (jCB call_abs sp_abs n_abs bt_abs (josCons (jSlot 1) josNil)))
 (jssCons (jFor po (jiRng1 n_range jInt) (jgName 2 sc__law_gcd.nd) (jssPost [2, 3] (jssCons (jIf (jBc (op_eqD (uu hr)) sp_eq (jSlot 1) (JE.o jInt)) (jssOne jBrk) jssNil)
 (jssCons (jSet 3 sc__law_gcd.nd (jMod (JE.o (jCT call_int1 sp_int n_int bt_int (josCons (jSlot 0) josNil))) (jSlot 1)))
 (jssCons (jSet 0 sc__law_gcd.nd (jVar 1))
 (jssOne (jSet 1 sc__law_gcd.nd (jVar 3))))))))
 (jssOne (jRet (jVar 0))))))⟩
theorem sc_parts_of : FnScope [("thing" : Str)] [("thing" : Str)] (defScope s_parts_of) := ⟨rfl, rfl, rfl, by decide +kernel, rfl, by decide +kernel, by decide +kernel⟩
theorem ok_parts_of {f : Addr} {fd : FuncData} (F : Fun K ("parts_of" : Str) ("parts_of" : Str) s_parts_of f fd) {C_Share : Addr} (kk : KitK K kap [24]) (gc_Share : mg ("Share" : Str) = some (.ref C_Share)) (kc_Share : kap 24 = C_Share) (n_isinstance : mg ("isinstance" : Str) = none) (a_Share_bottom : Cls K (kap 24) ∧ NoAttr K (kap 24) ("bottom" : Str)) (a_Share_top : Cls K (kap 24) ∧ NoAttr K (kap 24) ("top" : Str)) :
  FnG P w K mg base (L2.CX P w) 1 f fd [("thing" : Str)] (spD K kap 1 none m_parts_of) :=
  DL.Fun.dl F (N := [("thing" : Str)]) (n := 1) (nl := 0) (e := e_parts_of) sc_parts_of rfl rfl fun cdv A outer s H E hr tk po => ⟨_, (jssCons (jIf (jTru (JE.o (jCB call_isiA (sp_isi kk) n_isinstance bt_isinstance (josCons (jSlot 0) (josCons (JE.o (jCls 24 kc_Share gc_Share)) josNil))))) (jssOne (jRet (jTup (jaCons (jFld [24] (more_in a_Share_top none_in) (jSlot 0)) (jaCons (jFld [24] (more_in a_Share_bottom none_in) (jSlot 0)) jaNil))))) jssNil)
 (jssOne (jRet (jTup (jaCons (jVar 0) (jaCons jInt jaNil))))))⟩
theorem sc_is_number : FnScope [("thing" : Str)] [("thing" : Str)] (defScope s_is_number) := ⟨rfl, rfl, rfl, by decide +kernel, rfl, by decide +kernel, by decide +kernel⟩
theorem ok_is_number {f : Addr} {fd : FuncData} (F : Fun K ("is_number" : Str) ("is_number" : Str) s_is_number f fd) {C_Share : Addr} (g_is_integer : GF P w K mg base kap ("is_integer" : Str) 1 1 none m_is_integer []) (kk : KitK K kap [24]) (gc_Share : mg ("Share" : Str) = some (.ref C_Share)) (kc_Share : kap 24 = C_Share) (n_isinstance : mg ("isinstance" : Str) = none) :
  FnG P w K mg base (L2.CX P w) 2 f fd [("thing" : Str)] (spD K kap 1 none m_is_number) :=
  DL.Fun.dl F (N := [("thing" : Str)]) (n := 1) (nl := 0) (e := e_is_number) sc_is_number rfl rfl fun cdv A outer s H E hr tk po => ⟨_, (jssOne (jRet (jOrV (gCall g_is_integer (hr.mono (by decide)) tk (jcVal (jVar 0) jcNil)) (jOneV (jCB call_isiA (sp_isi kk) n_isinstance bt_isinstance (josCons (jSlot 0) (josCons (JE.o (jCls 24 kc_Share gc_Share)) josNil)))))))⟩
theorem sc_Share___eq__ : FnScope [("self" : Str), ("other" : Str), ("top" : Str), ("bottom" : Str)] [("self" : Str), ("other" : Str)] (defScope s_Share___eq__) := ⟨rfl, rfl, rfl, by decide +kernel, rfl, by decide +kernel, by decide +kernel⟩
theorem okNI_Share___eq__ {f : Addr} {fd : FuncData} (F : Fun K ("__eq__" : Str) ("Share.__eq__" : Str) s_Share___eq__ f fd) (n_NI : mg "NotImplemented" = none) (g_is_number : GF P w K mg base kap ("is_number" : Str) 2 1 none m_is_number []) :
  FnNI P w K mg base kap 3 f fd [("self" : Str), ("other" : Str)] cond_Share___eq__ :=
  DL.Fun.dlNI F (N := [("self" : Str), ("other" : Str), ("top" : Str), ("bottom" : Str)]) (nl := 2) (tv := ct_Share___eq__) sc_Share___eq__ rfl rfl rfl n_NI fun cdv A outer s H E hr tk => ⟨rfl, _, (jtNot (jTru (JE.o (gCall g_is_number (hr.mono (by decide)) tk (jcVal (jVar 1) jcNil)))))⟩
theorem ok_Share___eq__ {f : Addr} {fd : FuncData} (F : Fun K ("__eq__" : Str) ("Share.__eq__" : Str) s_Share___eq__ f fd) (g_is_number : GF P w K mg base kap ("is_number" : Str) 2 1 none m_is_number []) (g_parts_of : GF P w K mg base kap ("parts_of" : Str) 1 1 none m_parts_of []) (a_Share_top : Cls K (kap 24) ∧ NoAttr K (kap 24) ("top" : Str)) (a_Share_bottom : Cls K (kap 24) ∧ NoAttr K (kap 24) ("bottom" : Str)) :
  FnG P w K mg base (L2.CX P w) 3 f fd [("self" : Str), ("other" : Str)] (spD K kap 2 none m_Share___eq__) :=
  DL.Fun.dl F (N := [("self" : Str), ("other" : Str), ("top" : Str), ("bottom" : Str)]) (n := 2) (nl := 2) (e := e_Share___eq__) sc_Share___eq__ rfl rfl fun cdv A outer s H E hr tk po => ⟨_, (jssCons (jIf (jtNot (jTru (JE.o (gCall g_is_number (hr.mono (by decide)) tk (jcVal (jVar 1) jcNil))))) (jssOne jBadS) jssNil)
 (jssCons (jAsg (gCall g_parts_of (hr.mono (by decide)) tk (jcVal (jVar 1) jcNil)) (jgTup 2 (jgsCons (jgName 2 sc_Share___eq__.nd) (jgsCons (jgName 3 sc_Share___eq__.nd) jgsNil))))
 (jssOne (jRet (jAndV (jCmp (op_eqD (uu hr)) sp_eq (JE.o (jFld [24] (more_in a_Share_top none_in) (jSlot 0))) (jSlot 2)) (jOneV (jCmp (op_eqD (uu hr)) sp_eq (JE.o (jFld [24] (more_in a_Share_bottom none_in) (jSlot 0))) (jSlot 3))))))))⟩
theorem sc_Share___lt__ : FnScope [("self" : Str), ("other" : Str), ("top" : Str), ("bottom" : Str)] [("self" : Str), ("other" : Str)] (defScope s_Share___lt__) := ⟨rfl, rfl, rfl, by decide +kernel, rfl, by decide +kernel, by decide +kernel⟩
theorem ok_Share___lt__ {f : Addr} {fd : FuncData} (F : Fun K ("__lt__" : Str) ("Share.__lt__" : Str) s_Share___lt__ f fd) (g_is_number : GF P w K mg base kap ("is_number" : Str) 2 1 none m_is_number []) (g_parts_of : GF P w K mg base kap ("parts_of" : Str) 1 1 none m_parts_of []) (a_Share_top : Cls K (kap 24) ∧ NoAttr K (kap 24) ("top" : Str)) (a_Share_bottom : Cls K (kap 24) ∧ NoAttr K (kap 24) ("bottom" : Str)) :
  FnG P w K mg base (L2.CX P w) 3 f fd [("self" : Str), ("other" : Str)] (spD K kap 2 none m_Share___lt__) :=
  DL.Fun.dl F (N := [("self" : Str), ("other" : Str), ("top" : Str), ("bottom" : Str)]) (n := 2) (nl := 2) (e := e_Share___lt__) sc_Share___lt__ rfl rfl fun cdv A outer s H E hr tk po => ⟨_, (jssCons (jIf (jtNot (jTru (JE.o (gCall g_is_number (hr.mono (by decide)) tk (jcVal (jVar 1) jcNil))))) (jssOne jBadS) jssNil)
 (jssCons (jAsg (gCall g_parts_of (hr.mono (by decide)) tk (jcVal (jVar 1) jcNil)) (jgTup 2 (jgsCons (jgName 2 sc_Share___lt__.nd) (jgsCons (jgName 3 sc_Share___lt__.nd) jgsNil))))
 (jssOne (jRet (jCmp op_lt (spI fun _ _ _ => .bl _) (JE.o (jMul (JE.o (jFld [24] (more_in a_Share_top none_in) (jSlot 0))) (jSlot 3))) (JE.o (jMul (jSlot 2) (JE.o (jFld [24] (more_in a_Share_bottom none_in) (jSlot 0))))))))))⟩
theorem sc_Share___gt__ : FnScope [("self" : Str), ("other" : Str), ("top" : Str), ("bottom" : Str)] [("self" : Str), ("other" : Str)] (defScope s_Share___gt__) := ⟨rfl, rfl, rfl, by decide +kernel, rfl, by decide +kernel, by decide +kernel⟩
theorem ok_Share___gt__ {f : Addr} {fd : FuncData} (F : Fun K ("__gt__" : Str) ("Share.__gt__" : Str) s_Share___gt__ f fd) (g_is_number : GF P w K mg base kap ("is_number" : Str) 2 1 none m_is_number []) (g_parts_of : GF P w K mg base kap ("parts_of" : Str) 1 1 none m_parts_of []) (a_Share_top : Cls K (kap 24) ∧ NoAttr K (kap 24) ("top" : Str)) (a_Share_bottom : Cls K (kap 24) ∧ NoAttr K (kap 24) ("bottom" : Str)) :
  FnG P w K mg base (L2.CX P w) 3 f fd [("self" : Str), ("other" : Str)] (spD K kap 2 none m_Share___gt__) :=
  DL.Fun.dl F (N := [("self" : Str), ("other" : Str), ("top" : Str), ("bottom" : Str)]) (n := 2) (nl := 2) (e := e_Share___gt__) sc_Share___gt__ rfl rfl fun cdv A outer s H E hr tk po => ⟨_, (jssCons (jIf (jtNot (jTru (JE.o (gCall g_is_number (hr.mono (by decide)) tk (jcVal (jVar 1) jcNil))))) (jssOne jBadS) jssNil)
 (jssCons (jAsg (gCall g_parts_of (hr.mono (by decide)) tk (jcVal (jVar 1) jcNil)) (jgTup 2 (jgsCons (jgName 2 sc_Share___gt__.nd) (jgsCons (jgName 3 sc_Share___gt__.nd) jgsNil))))
 (jssOne (jRet (jCmp op_gt (spI fun _ _ _ => .bl _) (JE.o (jMul (JE.o (jFld [24] (more_in a_Share_top none_in) (jSlot 0))) (jSlot 3))) (JE.o (jMul (jSlot 2) (JE.o (jFld [24] (more_in a_Share_bottom none_in) (jSlot 0))))))))))⟩
theorem sc_Share___le__ : FnScope [("self" : Str), ("other" : Str), ("top" : Str), ("bottom" : Str)] [("self" : Str), ("other" : Str)] (defScope s_Share___le__) := ⟨rfl, rfl, rfl, by decide +kernel, rfl, by decide +kernel, by decide +kernel⟩
theorem ok_Share___le__ {f : Addr} {fd : FuncData} (F : Fun K ("__le__" : Str) ("Share.__le__" : Str) s_Share___le__ f fd) (g_is_number : GF P w K mg base kap ("is_number" : Str) 2 1 none m_is_number []) (g_parts_of : GF P w K mg base kap ("parts_of" : Str) 1 1 none m_parts_of []) (a_Share_top : Cls K (kap 24) ∧ NoAttr K (kap 24) ("top" : Str)) (a_Share_bottom : Cls K (kap 24) ∧ NoAttr K (kap 24) ("bottom" : Str)) :
  FnG P w K mg base (L2.CX P w) 3 f fd [("self" : Str), ("other" : Str)] (spD K kap 2 none m_Share___le__) :=
  DL.Fun.dl F (N := [("self" : Str), ("other" : Str), ("top" : Str), ("bottom" : Str)]) (n := 2) (nl := 2) (e := e_Share___le__) sc_Share___le__ rfl rfl fun cdv A outer s H E hr tk po => ⟨_, (jssCons (jIf (jtNot (jTru (JE.o (gCall g_is_number (hr.mono (by decide)) tk (jcVal (jVar 1) jcNil))))) (jssOne jBadS) jssNil)
 (jssCons (jAsg (gCall g_parts_of (hr.mono (by decide)) tk (jcVal (jVar 1) jcNil)) (jgTup 2 (jgsCons (jgName 2 sc_Share___le__.nd) (jgsCons (jgName 3 sc_Share___le__.nd) jgsNil))))
 (jssOne (jRet (jCmp op_le (spI fun _ _ _ => .bl _) (JE.o (jMul (JE.o (jFld [24] (more_in a_Share_top none_in) (jSlot 0))) (jSlot 3))) (JE.o (jMul (jSlot 2) (JE.o (jFld [24] (more_in a_Share_bottom none_in) (jSlot 0))))))))))⟩
theorem sc_Share___ge__ : FnScope [("self" : Str), ("other" : Str), ("top" : Str), ("bottom" : Str)] [("self" : Str), ("other" : Str)] (defScope s_Share___ge__) := ⟨rfl, rfl, rfl, by decide +kernel, rfl, by decide +kernel, by decide +kernel⟩
theorem ok_Share___ge__ {f : Addr} {fd : FuncData} (F : Fun K ("__ge__" : Str) ("Share.__ge__" : Str) s_Share___ge__ f fd) (g_is_number : GF P w K mg base kap ("is_number" : Str) 2 1 none m_is_number []) (g_parts_of : GF P w K mg base kap ("parts_of" : Str) 1 1 none m_parts_of []) (a_Share_top : Cls K (kap 24) ∧ NoAttr K (kap 24) ("top" : Str)) (a_Share_bottom : Cls K (kap 24) ∧ NoAttr K (kap 24) ("bottom" : Str)) :
  FnG P w K mg base (L2.CX P w) 3 f fd [("self" : Str), ("other" : Str)] (spD K kap 2 none m_Share___ge__) :=
  DL.Fun.dl F (N := [("self" : Str), ("other" : Str), ("top" : Str), ("bottom" : Str)]) (n := 2) (nl := 2) (e := e_Share___ge__) sc_Share___ge__ rfl rfl fun cdv A outer s H E hr tk po => ⟨_, (jssCons (jIf (jtNot (jTru (JE.o (gCall g_is_number (hr.mono (by decide)) tk (jcVal (jVar 1) jcNil))))) (jssOne jBadS) jssNil)
 (jssCons (jAsg (gCall g_parts_of (hr.mono (by decide)) tk (jcVal (jVar 1) jcNil)) (jgTup 2 (jgsCons (jgName 2 sc_Share___ge__.nd) (jgsCons (jgName 3 sc_Share___ge__.nd) jgsNil))))
 (jssOne (jRet (jCmp op_ge (spI fun _ _ _ => .bl _) (JE.o (jMul (JE.o (jFld [24] (more_in a_Share_top none_in) (jSlot 0))) (jSlot 3))) (JE.o (jMul (jSlot 2) (JE.o (jFld [24] (more_in a_Share_bottom none_in) (jSlot 0))))))))))⟩
theorem sc__law_compares : FnScope [("_law_x" : Str), ("_law_y" : Str), ("_law_less" : Str), ("_law_equal" : Str), ("_law_told" : Str)] [("_law_x" : Str), ("_law_y" : Str), ("_law_less" : Str), ("_law_equal" : Str)] (defScope s__law_compares) := ⟨rfl, rfl, rfl, by decide +kernel, rfl, by decide +kernel, by decide +kernel⟩
theorem ok__law_compares {f : Addr} {fd : FuncData} (F : Fun K ("_law_compares" : Str) ("_law_compares" : Str) s__law_compares f fd) (oc_Share_Eq : OwnC P w K mg base kap .Eq 3 24 m_Share___eq__ m_Share___eq__) (oc_Share_GtE : OwnC P w K mg base kap .GtE 3 24 m_Share___ge__ m_Share___le__) (oc_Share_Gt : OwnC P w K mg base kap .Gt 3 24 m_Share___gt__ m_Share___lt__) (oc_Share_LtE : OwnC P w K mg base kap .LtE 3 24 m_Share___le__ m_Share___ge__) (oc_Share_Lt : OwnC P w K mg base kap .Lt 3 24 m_Share___lt__ m_Share___gt__) (oq_Share : OwnNe P w K mg base kap 3 24 m_Share___eq__) (kk : KitK K kap [24]) (n_bool : mg ("bool" : Str) = none) (n_isinstance : mg ("isinstance" : Str) = none) :
  FnG P w K mg base (L2.CX P w) 5 f fd [("_law_x" : Str), ("_law_y" : Str), ("_law_less" : Str), ("_law_equal" : Str)] (spD K kap 4 none m__law_compares) :=
  DL.Fun.dl F (N := [("_law_x" : Str), ("_law_y" : Str), ("_law_less" : Str), ("_law_equal" : Str), ("_law_told" : Str)]) (n := 4) (nl := 1) (e := e__law_compares) sc__law_compares rfl rfl fun cdv A outer s H E hr tk po => ⟨_, (jssCons (jIf (jBc (op_cmpO oc_Share_Eq ic_eq (op_eqD (uu hr)) (hr.mono (by decide))) (sp_cmpO sp_eq) (jSlot 0) (jSlot 1)) (jssOne (jIf (jtNot (jTru (jSlot 3))) (jssOne (jRet jBl)) jssNil)) (jssOne (jIf (jTru (jSlot 3)) (jssOne (jRet jBl)) jssNil)))
 (jssCons (jFor po (jiSeq (JF.fz (jLst (jaCons (jCmp (op_cmpO oc_Share_Eq ic_eq (op_eqD (uu hr)) (hr.mono (by decide))) (sp_cmpO sp_eq) (jSlot 0) (jSlot 1)) (jaCons (jCmp (op_neO oq_Share (op_neD (uu hr)) (hr.mono (by decide))) (sp_neO sp_ne) (jSlot 0) (jSlot 1)) (jaCons (jCmp (op_cmpO oc_Share_Lt ic_lt op_lt (hr.mono (by decide))) (sp_cmpO (spI fun _ _ _ => .bl _)) (jSlot 0) (jSlot 1)) (jaCons (jCmp (op_cmpO oc_Share_LtE ic_le op_le (hr.mono (by decide))) (sp_cmpO (spI fun _ _ _ => .bl _)) (jSlot 0) (jSlot 1)) (jaCons (jCmp (op_cmpO oc_Share_Gt ic_gt op_gt (hr.mono (by decide))) (sp_cmpO (spI fun _ _ _ => .bl _)) (jSlot 0) (jSlot 1)) (jaCons (jCmp (op_cmpO oc_Share_GtE ic_ge op_ge (hr.mono (by decide))) (sp_cmpO (spI fun _ _ _ => .bl _)) (jSlot 0) (jSlot 1)) jaNil))))))))) (jgName 4 sc__law_compares.nd) (jssPost [4] (jssOne (jIf (jtNot (jTru (JE.o (jCB call_isiA (sp_isi kk) n_isinstance bt_isinstance (josCons (jSlot 4) (josCons (JE.o (jTy n_bool bt_bool)) josNil)))))) (jssOne (jRet jBl)) jssNil))))
 (jssCons (jIf (JW.pt (jwOr (jBc (op_eqD (uu hr)) sp_eq (JE.o (jCmp (op_neO oq_Share (op_neD (uu hr)) (hr.mono (by decide))) (sp_neO sp_ne) (jSlot 0) (jSlot 1))) (jSlot 3)) (jwOr (jBc (op_neD (uu hr)) sp_ne (JE.o (jCmp (op_cmpO oc_Share_Lt ic_lt op_lt (hr.mono (by decide))) (sp_cmpO (spI fun _ _ _ => .bl _)) (jSlot 0) (jSlot 1))) (jSlot 2)) (jwOr1 (jBc (op_neD (uu hr)) sp_ne (JE.o (jCmp (op_cmpO oc_Share_Gt ic_gt op_gt (hr.mono (by decide))) (sp_cmpO (spI fun _ _ _ => .bl _)) (jSlot 0) (jSlot 1))) (JE.o (jAndV (jNotV (jVar 2)) (jOneV (jNotV (jVar 3)))))))))) (jssOne (jRet jBl)) jssNil)
 (jssOne (jRet (jAndV (jCmp (op_eqD (uu hr)) sp_eq (JE.o (jCmp (op_cmpO oc_Share_LtE ic_le op_le (hr.mono (by decide))) (sp_cmpO (spI fun _ _ _ => .bl _)) (jSlot 0) (jSlot 1))) (JE.o (jOrV (jVar 2) (jOneV (jVar 3))))) (jOneV (jCmp (op_eqD (uu hr)) sp_eq (JE.o (jCmp (op_cmpO oc_Share_GtE ic_ge op_ge (hr.mono (by decide))) (sp_cmpO (spI fun _ _ _ => .bl _)) (jSlot 0) (jSlot 1))) (JE.o (jNotV (jVar 2)))))))))))⟩
theorem sc_Share___str__ : FnScope [("self" : Str)] [("self" : Str)] (defScope s_Share___str__) := ⟨rfl, rfl, rfl, by decide +kernel, rfl, by decide +kernel, by decide +kernel⟩
theorem ok_Share___str__ {f : Addr} {fd : FuncData} (F : Fun K ("__str__" : Str) ("Share.__str__" : Str) s_Share___str__ f fd) (a_Share_bottom : Cls K (kap 24) ∧ NoAttr K (kap 24) ("bottom" : Str)) (a_Share_top : Cls K (kap 24) ∧ NoAttr K (kap 24) ("top" : Str)) (n_str : mg ("str" : Str) = none) :
  FnG P w K mg base (L2.CX P w) 1 f fd [("self" : Str)] (spD K kap 1 none m_Share___str__) :=
  DL.Fun.dl F (N := [("self" : Str)]) (n := 1) (nl := 0) (e := e_Share___str__) sc_Share___str__ rfl rfl fun cdv A outer s H E hr tk po => ⟨_, (jssCons (jIf (jBc (op_eqD (uu hr)) sp_eq (JE.o (jFld [24] (more_in a_Share_bottom none_in) (jSlot 0))) (JE.o jInt)) (jssOne (jRet (jCT call_str_int sp_strI n_str bt_str (josCons (JE.o (jFld [24] (more_in a_Share_top none_in) (jSlot 0))) josNil)))) jssNil)
 (jssOne (jRet (jJoined (jfsCons (jFmt (jFld [24] (more_in a_Share_top none_in) (jSlot 0))) (jfsCons jStr (jfsCons (jFmt (jFld [24] (more_in a_Share_bottom none_in) (jSlot 0))) jfsNil)))))))⟩
theorem sc_law : FnScope [("_law_script" : Str), ("_law_k" : Str), ("_law_state" : Str), ("_law_alike" : Str), ("_law_odd" : Str), ("_law_a" : Str), ("_law_b" : Str), ("_law_c" : Str), ("_law_d" : Str), ("_law_n" : Str), ("_law_factor" : Str), ("_law_one" : Str), ("_law_other" : Str), ("_law_left" : Str), ("_law_right" : Str), ("_law_common" : Str), ("_law_due" : Str)] [("_law_script" : Str)] (defScope s_law) := ⟨rfl, rfl, rfl, by decide +kernel, rfl, by decide +kernel, by decide +kernel⟩
theorem ok_law {f : Addr} {fd : FuncData} (F : Fun K ("law" : Str) ("law" : Str) s_law f fd) (n_range : mg ("range" : Str) = none) (n_len : mg ("len" : Str) = none) (g__law_start : GF P w K mg base kap ("_law_start" : Str) 1 2 none m__law_start []) (g__law_draw : GF P w K mg base kap ("_law_draw" : Str) 1 2 (some 0) m__law_draw []) (g__law_number : GF P w K mg base kap ("_law_number" : Str) 2 2 (some 0) m__law_number []) (n_abs : mg ("abs" : Str) = none) (mk_Share : GM P w K mg base kap ("Share" : Str) 24 2 3 m_Share_init []) (g__law_compares : GF P w K mg base kap ("_law_compares" : Str) 5 4 none m__law_compares []) (mk_Share_1 : GM P w K mg base kap ("Share" : Str) 24 2 3 m_Share_init [.int 1]) (oc_Share_Eq : OwnC P w K mg base kap .Eq 3 24 m_Share___eq__ m_Share___eq__) (oni_Share : OwnNI P w K mg base kap 3 24 cond_Share___eq__) (oq_Share : OwnNe P w K mg base kap 3 24 m_Share___eq__) (g__law_gcd : GF P w K mg base kap ("_law_gcd" : Str) 1 2 none m__law_gcd []) (n_str : mg ("str" : Str) = none) (os_Share : OwnS P w K mg base kap 1 24 m_Share___str__) :
  FnG P w K mg base (L2.CX P w) 6 f fd [("_law_script" : Str)] (spD K kap 1 none m_law) :=
  DL.Fun.dl F (N := [("_law_script" : Str), ("_law_k" : Str), ("_law_state" : Str), ("_law_alike" : Str), ("_law_odd" : Str), ("_law_a" : Str), ("_law_b" : Str), ("_law_c" : Str), ("_law_d" : Str), ("_law_n" : Str), ("_law_factor" : Str), ("_law_one" : Str), ("_law_other" : Str), ("_law_left" : Str), ("_law_right" : Str), ("_law_common" : Str), ("_law_due" : Str)]) (n := 1) (nl := 16) (e := e_law) sc_law rfl rfl fun cdv A outer s H E hr tk po => ⟨_, (jssCons (jFor po (jiRng1 n_range (jAdd (JE.o jInt) (JE.o (jCB call_lenA sp_len n_len bt_len (josCons (JE.o (jSlA (jSlot 0) jNoP (jPart jInt))) josNil))))) (jgName 1 sc_law.nd) (jssPost [1, 2, 3, 4, 5, 6, 7, 8, 9, 10, 11, 12, 13, 14, 15, 16] (jssCons (jSetF 2 sc_law.nd (gCallF g__law_start (hr.mono (by decide)) tk (jcVal (jVar 0) (jcVal (jVar 1) jcNil))))
 (jssCons (jSet 3 sc_law.nd (gCall g__law_draw (hr.mono (by decide)) tk (jcSlot 2 (jcVal jInt jcNil))))
 (jssCons (jSet 4 sc_law.nd (jItem (JE.o (JF.fz (jLst (jaCons jNon (jaCons jStr (jaCons jStr (jaCons jBl (jaCons jBl (jaCons (JF.fz (jLst jaNil)) (jaCons (jTup (jaCons jInt jaNil)) (jaCons (JF.fz (jDk0)) (jaCons jStr (jaCons (jTup (jaCons jInt (jaCons jInt jaNil))) jaNil))))))))))))) (JE.o (gCall g__law_draw (hr.mono (by decide)) tk (jcSlot 2 (jcVal jInt jcNil))))))
 (jssCons (jSet 5 sc_law.nd (gCall g__law_number (hr.mono (by decide)) tk (jcSlot 2 (jcVal (jPow (JE.o jInt) (JE.o jInt)) jcNil))))
 (jssCons (jSet 6 sc_law.nd (jAdd (JE.o jInt) (JE.o (jCB call_abs sp_abs n_abs bt_abs (josCons (JE.o (gCall g__law_number (hr.mono (by decide)) tk (jcSlot 2 (jcVal (jPow (JE.o jInt) (JE.o jInt)) jcNil)))) josNil)))))
 (jssCons (jSet 7 sc_law.nd (gCall g__law_number (hr.mono (by decide)) tk (jcSlot 2 (jcVal (jPow (JE.o jInt) (JE.o jInt)) jcNil))))
 (jssCons (jSet 8 sc_law.nd (jAdd (JE.o jInt) (JE.o (jCB call_abs sp_abs n_abs bt_abs (josCons (JE.o (gCall g__law_number (hr.mono (by decide)) tk (jcSlot 2 (jcVal (jPow (JE.o jInt) (JE.o jInt)) jcNil)))) josNil)))))
 (jssCons (jSet 9 sc_law.nd (gCall g__law_number (hr.mono (by decide)) tk (jcSlot 2 (jcVal (jPow (JE.o jInt) (JE.o jInt)) jcNil))))
 (jssCons (jPost [10] (jIf (jBc (op_eqD (uu hr)) sp_eq (jSlot 3) (JE.o jInt)) (jssCons (jSet 10 sc_law.nd (jAdd (JE.o jInt) (JE.o (gCall g__law_draw (hr.mono (by decide)) tk (jcSlot 2 (jcVal jInt jcNil))))))
 (jssCons (jSet 7 sc_law.nd (jMul (JE.o (jNeg (jSlot 5))) (jSlot 10)))
 (jssOne (jSet 8 sc_law.nd (jMul (JE.o (jNeg (jSlot 6))) (jSlot 10)))))) jssNil))
 (jssCons (jSet 11 sc_law.nd (JF.fz (gMake mk_Share (hr.mono (by decide)) tk (jaCons (jVar 5) (jaCons (jVar 6) jaNil)))))
 (jssCons (jSet 12 sc_law.nd (JF.fz (gMake mk_Share (hr.mono (by decide)) tk (jaCons (jVar 7) (jaCons (jVar 8) jaNil)))))
 (jssCons (jSet 13 sc_law.nd (jMul (jSlot 5) (JE.o (jCB call_abs sp_abs n_abs bt_abs (josCons (jSlot 8) josNil)))))
 (jssCons (jSet 14 sc_law.nd (jMul (jSlot 6) (jSlot 7)))
 (jssCons (jIf (jBc op_lt (spI fun _ _ _ => .bl _) (jSlot 8) (JE.o jInt)) (jssOne (jSet 14 sc_law.nd (jNeg (jSlot 14)))) jssNil)
 (jssCons (jIf (jtNot (jTru (JE.o (gCall g__law_compares (hr.mono (by decide)) tk (jcVal (jVar 11) (jcVal (jVar 12) (jcVal (jCmp op_lt (spI fun _ _ _ => .bl _) (jSlot 13) (jSlot 14)) (jcVal (jCmp (op_eqD (uu hr)) sp_eq (jSlot 13) (jSlot 14)) jcNil)))))))) (jssOne (jRet jBl)) jssNil)
 (jssCons (jIf (JW.pt (jwOr (jtNot (jTru (JE.o (gCall g__law_compares (hr.mono (by decide)) tk (jcVal (jVar 11) (jcVal (jVar 9) (jcVal (jCmp op_lt (spI fun _ _ _ => .bl _) (jSlot 5) (JE.o (jMul (jSlot 9) (jSlot 6)))) (jcVal (jCmp (op_eqD (uu hr)) sp_eq (jSlot 5) (JE.o (jMul (jSlot 9) (jSlot 6)))) jcNil)))))))) (jwOr1 (jtNot (jTru (JE.o (gCall g__law_compares (hr.mono (by decide)) tk (jcVal (jVar 9) (jcVal (jVar 11) (jcVal (jCmp op_lt (spI fun _ _ _ => .bl _) (JE.o (jMul (jSlot 9) (jSlot 6))) (jSlot 5)) (jcVal (jCmp (op_eqD (uu hr)) sp_eq (jSlot 5) (JE.o (jMul (jSlot 9) (jSlot 6)))) jcNil))))))))))) (jssOne (jRet jBl)) jssNil)
 (jssCons (jIf (jtNot (jTru (JE.o (gCall g__law_compares (hr.mono (by decide)) tk (jcVal (JF.fz (gMake mk_Share_1 (hr.mono (by decide)) tk (jaCons (jVar 9) jaNil))) (jcVal (jVar 9) (jcVal jBl (jcVal jBl jcNil)))))))) (jssOne (jRet jBl)) jssNil)
 (jssCons (jIf (JW.pt (jwOr (jBc (op_eqNI oni_Share (op_cmpO oc_Share_Eq ic_eq (op_eqD (uu hr)) (hr.mono (by decide))) (hr.mono (by decide))) (sp_eqNI (sp_cmpO sp_eq)) (jSlot 11) (jSlot 4)) (jwOr (jBc (op_eqNI oni_Share (op_cmpO oc_Share_Eq ic_eq (op_eqD (uu hr)) (hr.mono (by decide))) (hr.mono (by decide))) (sp_eqNI (sp_cmpO sp_eq)) (jSlot 4) (jSlot 11)) (jwOr (jtNot (jBc (op_neNI oni_Share (op_neO oq_Share (op_neD (uu hr)) (hr.mono (by decide))) (hr.mono (by decide))) (sp_neNI (sp_neO sp_ne)) (jSlot 11) (jSlot 4))) (jwOr (jBc (op_eqNI oni_Share (op_cmpO oc_Share_Eq ic_eq (op_eqD (uu hr)) (hr.mono (by decide))) (hr.mono (by decide))) (sp_eqNI (sp_cmpO sp_eq)) (JE.o (JF.fz (gMake mk_Share_1 (hr.mono (by decide)) tk (jaCons jInt jaNil)))) (JE.o jBl)) (jwOr1 (jBc (op_eqNI oni_Share (op_cmpO oc_Share_Eq ic_eq (op_eqD (uu hr)) (hr.mono (by decide))) (hr.mono (by decide))) (sp_eqNI (sp_cmpO sp_eq)) (JE.o (JF.fz (gMake mk_Share_1 (hr.mono (by decide)) tk (jaCons jInt jaNil)))) (JE.o jBl)))))))) (jssOne (jRet jBl)) jssNil)
 (jssCons (jSet 15 sc_law.nd (gCall g__law_gcd (hr.mono (by decide)) tk (jcVal (jVar 5) (jcVal (jVar 6) jcNil))))
 (jssCons (jSet 16 sc_law.nd (jCT call_str_int sp_strI n_str bt_str (josCons (JE.o (jFdiv (jSlot 5) (jSlot 15))) josNil)))
 (jssCons (jIf (jBc (op_neD (uu hr)) sp_ne (JE.o (jFdiv (jSlot 6) (jSlot 15))) (JE.o jInt)) (jssOne (jSet 16 sc_law.nd (jAdd (JE.o (jAdd (jSlot 16) (JE.o jStr))) (JE.o (jCT call_str_int sp_strI n_str bt_str (josCons (JE.o (jFdiv (jSlot 6) (jSlot 15))) josNil)))))) jssNil)
 (jssOne (jIf (JW.pt (jwOr (jBc (op_neD (uu hr)) sp_ne (JE.o (jCT (call_strO (RoomG.in1 (RoomG.in1 (hr.mono (by decide)))) os_Share) sp_strO n_str bt_str (josCons (jSlot 11) josNil))) (jSlot 16)) (jwOr1 (jBc (op_neD (uu hr)) sp_ne (JE.o (jCT (call_strO (RoomG.in1 (RoomG.in1 (hr.mono (by decide)))) os_Share) sp_strO n_str bt_str (josCons (JE.o (JF.fz (gMake mk_Share_1 (hr.mono (by decide)) tk (jaCons (jVar 9) jaNil)))) josNil))) (JE.o (jCT call_str_int sp_strI n_str bt_str (josCons (jSlot 9) josNil))))))) (jssOne (jRet jBl)) jssNil)))))))))))))))))))))))))
 (jssOne (jRet jBl)))⟩
end
theorem all_mk {w : World} {K : PySem.W.Frag} {h : Heap} {mg : Str → Option Value} {fa : Addr} (X : K.In h) (G : h.Ns mainGlobals mg) (hfa : mg "law" = some (.ref fa))
  {C_LabelError : Addr} {C_BadShare : Addr} {C_NoShare : Addr} {C_Share : Addr} {f__law_start : Addr} {od__law_start : Option Addr} {an__law_start : Option Addr} {sl__law_start : Array (Option Value)} {oc__law_start : Value} {kv__law_start : Value} {dc__law_start : Value} {pm__law_start : Value} {cd__law_start : Value} {ct__law_start : Value} {f__law_draw : Addr} {od__law_draw : Option Addr} {an__law_draw : Option Addr} {sl__law_draw : Array (Option Value)} {oc__law_draw : Value} {kv__law_draw : Value} {dc__law_draw : Value} {pm__law_draw : Value} {cd__law_draw : Value} {ct__law_draw : Value} {f__law_number : Addr} {od__law_number : Option Addr} {an__law_number : Option Addr} {sl__law_number : Array (Option Value)} {oc__law_number : Value} {kv__law_number : Value} {dc__law_number : Value} {pm__law_number : Value} {cd__law_number : Value} {ct__law_number : Value} {f_is_integer : Addr} {od_is_integer : Option Addr} {an_is_integer : Option Addr} {sl_is_integer : Array (Option Value)} {oc_is_integer : Value} {kv_is_integer : Value} {dc_is_integer : Value} {pm_is_integer : Value} {cd_is_integer : Value} {ct_is_integer : Value} {f_Share_init : Addr} {od_Share_init : Option Addr} {an_Share_init : Option Addr} {sl_Share_init : Array (Option Value)} {oc_Share_init : Value} {kv_Share_init : Value} {dc_Share_init : Value} {pm_Share_init : Value} {cd_Share_init : Value} {ct_Share_init : Value} {T_Share_init : Addr} {o_Share_init : Obj} {n_Share_init : Nat} {q_Share_init_0 : Tok} {f__law_gcd : Addr} {od__law_gcd : Option Addr} {an__law_gcd : Option Addr} {sl__law_gcd : Array (Option Value)} {oc__law_gcd : Value} {kv__law_gcd : Value} {dc__law_gcd : Value} {pm__law_gcd : Value} {cd__law_gcd : Value} {ct__law_gcd : Value} {f_parts_of : Addr} {od_parts_of : Option Addr} {an_parts_of : Option Addr} {sl_parts_of : Array (Option Value)} {oc_parts_of : Value} {kv_parts_of : Value} {dc_parts_of : Value} {pm_parts_of : Value} {cd_parts_of : Value} {ct_parts_of : Value} {f_is_number : Addr} {od_is_number : Option Addr} {an_is_number : Option Addr} {sl_is_number : Array (Option Value)} {oc_is_number : Value} {kv_is_number : Value} {dc_is_number : Value} {pm_is_number : Value} {cd_is_number : Value} {ct_is_number : Value} {f_Share___eq__ : Addr} {od_Share___eq__ : Option Addr} {an_Share___eq__ : Option Addr} {sl_Share___eq__ : Array (Option Value)} {oc_Share___eq__ : Value} {kv_Share___eq__ : Value} {dc_Share___eq__ : Value} {pm_Share___eq__ : Value} {cd_Share___eq__ : Value} {ct_Share___eq__ : Value} {f_Share___lt__ : Addr} {od_Share___lt__ : Option Addr} {an_Share___lt__ : Option Addr} {sl_Share___lt__ : Array (Option Value)} {oc_Share___lt__ : Value} {kv_Share___lt__ : Value} {dc_Share___lt__ : Value} {pm_Share___lt__ : Value} {cd_Share___lt__ : Value} {ct_Share___lt__ : Value} {f_Share___gt__ : Addr} {od_Share___gt__ : Option Addr} {an_Share___gt__ : Option Addr} {sl_Share___gt__ : Array (Option Value)} {oc_Share___gt__ : Value} {kv_Share___gt__ : Value} {dc_Share___gt__ : Value} {pm_Share___gt__ : Value} {cd_Share___gt__ : Value} {ct_Share___gt__ : Value} {f_Share___le__ : Addr} {od_Share___le__ : Option Addr} {an_Share___le__ : Option Addr} {sl_Share___le__ : Array (Option Value)} {oc_Share___le__ : Value} {kv_Share___le__ : Value} {dc_Share___le__ : Value} {pm_Share___le__ : Value} {cd_Share___le__ : Value} {ct_Share___le__ : Value} {f_Share___ge__ : Addr} {od_Share___ge__ : Option Addr} {an_Share___ge__ : Option Addr} {sl_Share___ge__ : Array (Option Value)} {oc_Share___ge__ : Value} {kv_Share___ge__ : Value} {dc_Share___ge__ : Value} {pm_Share___ge__ : Value} {cd_Share___ge__ : Value} {ct_Share___ge__ : Value} {f__law_compares : Addr} {od__law_compares : Option Addr} {an__law_compares : Option Addr} {sl__law_compares : Array (Option Value)} {oc__law_compares : Value} {kv__law_compares : Value} {dc__law_compares : Value} {pm__law_compares : Value} {cd__law_compares : Value} {ct__law_compares : Value} {f_Share___str__ : Addr} {od_Share___str__ : Option Addr} {an_Share___str__ : Option Addr} {sl_Share___str__ : Array (Option Value)} {oc_Share___str__ : Value} {kv_Share___str__ : Value} {dc_Share___str__ : Value} {pm_Share___str__ : Value} {cd_Share___str__ : Value} {ct_Share___str__ : Value} {f_law : Addr} {od_law : Option Addr} {an_law : Option Addr} {sl_law : Array (Option Value)} {oc_law : Value} {kv_law : Value} {dc_law : Value} {pm_law : Value} {cd_law : Value} {ct_law : Value} {f_BadShare_init : Addr} {da_BadShare_init : Addr} {cc_BadShare_init : Addr} {nm_BadShare_init : Str} {q_BadShare_init : Str} {N_BadShare_init : Addr} {bs_BadShare_init : List Value} {bm_BadShare_init : List Value} {sn_BadShare_init : List Str} {su_BadShare_init : List Value} {ab_BadShare_init : Bool} {co_BadShare_init : Option Bool} {dd_BadShare_init : Option Addr} {k0_BadShare_init : Option Value} {k1_BadShare_init : Option Value} {k2_BadShare_init : Option Value} {k3_BadShare_init : Option Value} {k5_BadShare_init : Option Value} {od_BadShare_init : Option Addr} {an_BadShare_init : Option Addr} {sl_BadShare_init : Array (Option Value)} {oc_BadShare_init : Value} {dc_BadShare_init : Value} {pm_BadShare_init : Value} {ct_BadShare_init : Value} {e1_BadShare_init : Value} {e2_BadShare_init : Option Addr} {e3_BadShare_init : Array (Option Value)} {vs_BadShare_init : Array Value} {fi_BadShare_init : Str} {tf_BadShare_init : Tok} {g1_BadShare_init : Value} {g2_BadShare_init : Option Addr} {g3_BadShare_init : Array (Option Value)}
  (ac_LabelError : PySem.W.nsIn K mainGlobals ("LabelError" : Str) = some (some (.ref C_LabelError)))
  (ac_BadShare : PySem.W.nsIn K mainGlobals ("BadShare" : Str) = some (some (.ref C_BadShare)))
  (ac_NoShare : PySem.W.nsIn K mainGlobals ("NoShare" : Str) = some (some (.ref C_NoShare)))
  (ac_Share : PySem.W.nsIn K mainGlobals ("Share" : Str) = some (some (.ref C_Share)))
  (a__law_start : PySem.W.nsIn K mainGlobals ("_law_start" : Str) = some (some (.ref f__law_start)))
  (l__law_start : K.lookup f__law_start = some ⟨oc__law_start, od__law_start, .func (PySem.W.fnOf ("_law_start" : Str) ("_law_start" : Str) (defArgs s__law_start) (defBody s__law_start) (defScope s__law_start) .none kv__law_start dc__law_start pm__law_start an__law_start cd__law_start ct__law_start), sl__law_start⟩)
  (c__law_start : PySem.W.codeIn K cd__law_start ("_law_start" : Str) = true)
  (k__law_start : PySem.W.keepIn K (.ref f__law_start) = true)
  (a__law_draw : PySem.W.nsIn K mainGlobals ("_law_draw" : Str) = some (some (.ref f__law_draw)))
  (l__law_draw : K.lookup f__law_draw = some ⟨oc__law_draw, od__law_draw, .func (PySem.W.fnOf ("_law_draw" : Str) ("_law_draw" : Str) (defArgs s__law_draw) (defBody s__law_draw) (defScope s__law_draw) .none kv__law_draw dc__law_draw pm__law_draw an__law_draw cd__law_draw ct__law_draw), sl__law_draw⟩)
  (c__law_draw : PySem.W.codeIn K cd__law_draw ("_law_draw" : Str) = true)
  (k__law_draw : PySem.W.keepIn K (.ref f__law_draw) = true)
  (a__law_number : PySem.W.nsIn K mainGlobals ("_law_number" : Str) = some (some (.ref f__law_number)))
  (l__law_number : K.lookup f__law_number = some ⟨oc__law_number, od__law_number, .func (PySem.W.fnOf ("_law_number" : Str) ("_law_number" : Str) (defArgs s__law_number) (defBody s__law_number) (defScope s__law_number) .none kv__law_number dc__law_number pm__law_number an__law_number cd__law_number ct__law_number), sl__law_number⟩)
  (c__law_number : PySem.W.codeIn K cd__law_number ("_law_number" : Str) = true)
  (k__law_number : PySem.W.keepIn K (.ref f__law_number) = true)
  (a_is_integer : PySem.W.nsIn K mainGlobals ("is_integer" : Str) = some (some (.ref f_is_integer)))
  (l_is_integer : K.lookup f_is_integer = some ⟨oc_is_integer, od_is_integer, .func (PySem.W.fnOf ("is_integer" : Str) ("is_integer" : Str) (defArgs s_is_integer) (defBody s_is_integer) (defScope s_is_integer) .none kv_is_integer dc_is_integer pm_is_integer an_is_integer cd_is_integer ct_is_integer), sl_is_integer⟩)
  (c_is_integer : PySem.W.codeIn K cd_is_integer ("is_integer" : Str) = true)
  (k_is_integer : PySem.W.keepIn K (.ref f_is_integer) = true)
  (a_Share_init : PySem.W.findIn K (.ref C_Share) ("__init__" : Str) = some (some (.ref f_Share_init)))
  (i_Share_init : PySem.W.isFn K (.ref f_Share_init) = true)
  (l_Share_init : K.lookup f_Share_init = some ⟨oc_Share_init, od_Share_init, .func (PySem.W.fnOf ("__init__" : Str) ("Share.__init__" : Str) (defArgs s_Share_init) (defBody s_Share_init) (defScope s_Share_init) (.ref T_Share_init) kv_Share_init dc_Share_init pm_Share_init an_Share_init cd_Share_init ct_Share_init), sl_Share_init⟩)
  (c_Share_init : PySem.W.codeIn K cd_Share_init ("Share.__init__" : Str) = true)
  (k_Share_init : PySem.W.keepIn K (.ref f_Share_init) = true)
  (lt_Share_init : K.lookup T_Share_init = some o_Share_init)
  (ld_Share_init : o_Share_init.data = .seq (([.int (1) q_Share_init_0] : List Value).toArray) n_Share_init)
  (a__law_gcd : PySem.W.nsIn K mainGlobals ("_law_gcd" : Str) = some (some (.ref f__law_gcd)))
  (l__law_gcd : K.lookup f__law_gcd = some ⟨oc__law_gcd, od__law_gcd, .func (PySem.W.fnOf ("_law_gcd" : Str) ("_law_gcd" : Str) (defArgs s__law_gcd) (defBody s__law_gcd) (defScope s__law_gcd) .none kv__law_gcd dc__law_gcd pm__law_gcd an__law_gcd cd__law_gcd ct__law_gcd), sl__law_gcd⟩)
  (c__law_gcd : PySem.W.codeIn K cd__law_gcd ("_law_gcd" : Str) = true)
  (k__law_gcd : PySem.W.keepIn K (.ref f__law_gcd) = true)
  (a_parts_of : PySem.W.nsIn K mainGlobals ("parts_of" : Str) = some (some (.ref f_parts_of)))
  (l_parts_of : K.lookup f_parts_of = some ⟨oc_parts_of, od_parts_of, .func (PySem.W.fnOf ("parts_of" : Str) ("parts_of" : Str) (defArgs s_parts_of) (defBody s_parts_of) (defScope s_parts_of) .none kv_parts_of dc_parts_of pm_parts_of an_parts_of cd_parts_of ct_parts_of), sl_parts_of⟩)
  (c_parts_of : PySem.W.codeIn K cd_parts_of ("parts_of" : Str) = true)
  (k_parts_of : PySem.W.keepIn K (.ref f_parts_of) = true)
  (a_is_number : PySem.W.nsIn K mainGlobals ("is_number" : Str) = some (some (.ref f_is_number)))
  (l_is_number : K.lookup f_is_number = some ⟨oc_is_number, od_is_number, .func (PySem.W.fnOf ("is_number" : Str) ("is_number" : Str) (defArgs s_is_number) (defBody s_is_number) (defScope s_is_number) .none kv_is_number dc_is_number pm_is_number an_is_number cd_is_number ct_is_number), sl_is_number⟩)
  (c_is_number : PySem.W.codeIn K cd_is_number ("is_number" : Str) = true)
  (k_is_number : PySem.W.keepIn K (.ref f_is_number) = true)
  (a_Share___eq__ : PySem.W.findIn K (.ref C_Share) ("__eq__" : Str) = some (some (.ref f_Share___eq__)))
  (i_Share___eq__ : PySem.W.isFn K (.ref f_Share___eq__) = true)
  (l_Share___eq__ : K.lookup f_Share___eq__ = some ⟨oc_Share___eq__, od_Share___eq__, .func (PySem.W.fnOf ("__eq__" : Str) ("Share.__eq__" : Str) (defArgs s_Share___eq__) (defBody s_Share___eq__) (defScope s_Share___eq__) .none kv_Share___eq__ dc_Share___eq__ pm_Share___eq__ an_Share___eq__ cd_Share___eq__ ct_Share___eq__), sl_Share___eq__⟩)
  (c_Share___eq__ : PySem.W.codeIn K cd_Share___eq__ ("Share.__eq__" : Str) = true)
  (k_Share___eq__ : PySem.W.keepIn K (.ref f_Share___eq__) = true)
  (a_Share___lt__ : PySem.W.findIn K (.ref C_Share) ("__lt__" : Str) = some (some (.ref f_Share___lt__)))
  (i_Share___lt__ : PySem.W.isFn K (.ref f_Share___lt__) = true)
  (l_Share___lt__ : K.lookup f_Share___lt__ = some ⟨oc_Share___lt__, od_Share___lt__, .func (PySem.W.fnOf ("__lt__" : Str) ("Share.__lt__" : Str) (defArgs s_Share___lt__) (defBody s_Share___lt__) (defScope s_Share___lt__) .none kv_Share___lt__ dc_Share___lt__ pm_Share___lt__ an_Share___lt__ cd_Share___lt__ ct_Share___lt__), sl_Share___lt__⟩)
  (c_Share___lt__ : PySem.W.codeIn K cd_Share___lt__ ("Share.__lt__" : Str) = true)
  (k_Share___lt__ : PySem.W.keepIn K (.ref f_Share___lt__) = true)
  (a_Share___gt__ : PySem.W.findIn K (.ref C_Share) ("__gt__" : Str) = some (some (.ref f_Share___gt__)))
  (i_Share___gt__ : PySem.W.isFn K (.ref f_Share___gt__) = true)
  (l_Share___gt__ : K.lookup f_Share___gt__ = some ⟨oc_Share___gt__, od_Share___gt__, .func (PySem.W.fnOf ("__gt__" : Str) ("Share.__gt__" : Str) (defArgs s_Share___gt__) (defBody s_Share___gt__) (defScope s_Share___gt__) .none kv_Share___gt__ dc_Share___gt__ pm_Share___gt__ an_Share___gt__ cd_Share___gt__ ct_Share___gt__), sl_Share___gt__⟩)
  (c_Share___gt__ : PySem.W.codeIn K cd_Share___gt__ ("Share.__gt__" : Str) = true)
  (k_Share___gt__ : PySem.W.keepIn K (.ref f_Share___gt__) = true)
  (a_Share___le__ : PySem.W.findIn K (.ref C_Share) ("__le__" : Str) = some (some (.ref f_Share___le__)))
  (i_Share___le__ : PySem.W.isFn K (.ref f_Share___le__) = true)
  (l_Share___le__ : K.lookup f_Share___le__ = some ⟨oc_Share___le__, od_Share___le__, .func (PySem.W.fnOf ("__le__" : Str) ("Share.__le__" : Str) (defArgs s_Share___le__) (defBody s_Share___le__) (defScope s_Share___le__) .none kv_Share___le__ dc_Share___le__ pm_Share___le__ an_Share___le__ cd_Share___le__ ct_Share___le__), sl_Share___le__⟩)
  (c_Share___le__ : PySem.W.codeIn K cd_Share___le__ ("Share.__le__" : Str) = true)
  (k_Share___le__ : PySem.W.keepIn K (.ref f_Share___le__) = true)
  (a_Share___ge__ : PySem.W.findIn K (.ref C_Share) ("__ge__" : Str) = some (some (.ref f_Share___ge__)))
  (i_Share___ge__ : PySem.W.isFn K (.ref f_Share___ge__) = true)
  (l_Share___ge__ : K.lookup f_Share___ge__ = some ⟨oc_Share___ge__, od_Share___ge__, .func (PySem.W.fnOf ("__ge__" : Str) ("Share.__ge__" : Str) (defArgs s_Share___ge__) (defBody s_Share___ge__) (defScope s_Share___ge__) .none kv_Share___ge__ dc_Share___ge__ pm_Share___ge__ an_Share___ge__ cd_Share___ge__ ct_Share___ge__), sl_Share___ge__⟩)
  (c_Share___ge__ : PySem.W.codeIn K cd_Share___ge__ ("Share.__ge__" : Str) = true)
  (k_Share___ge__ : PySem.W.keepIn K (.ref f_Share___ge__) = true)
  (a__law_compares : PySem.W.nsIn K mainGlobals ("_law_compares" : Str) = some (some (.ref f__law_compares)))
  (l__law_compares : K.lookup f__law_compares = some ⟨oc__law_compares, od__law_compares, .func (PySem.W.fnOf ("_law_compares" : Str) ("_law_compares" : Str) (defArgs s__law_compares) (defBody s__law_compares) (defScope s__law_compares) .none kv__law_compares dc__law_compares pm__law_compares an__law_compares cd__law_compares ct__law_compares), sl__law_compares⟩)
  (c__law_compares : PySem.W.codeIn K cd__law_compares ("_law_compares" : Str) = true)
  (k__law_compares : PySem.W.keepIn K (.ref f__law_compares) = true)
  (a_Share___str__ : PySem.W.findIn K (.ref C_Share) ("__str__" : Str) = some (some (.ref f_Share___str__)))
  (i_Share___str__ : PySem.W.isFn K (.ref f_Share___str__) = true)
  (l_Share___str__ : K.lookup f_Share___str__ = some ⟨oc_Share___str__, od_Share___str__, .func (PySem.W.fnOf ("__str__" : Str) ("Share.__str__" : Str) (defArgs s_Share___str__) (defBody s_Share___str__) (defScope s_Share___str__) .none kv_Share___str__ dc_Share___str__ pm_Share___str__ an_Share___str__ cd_Share___str__ ct_Share___str__), sl_Share___str__⟩)
  (c_Share___str__ : PySem.W.codeIn K cd_Share___str__ ("Share.__str__" : Str) = true)
  (k_Share___str__ : PySem.W.keepIn K (.ref f_Share___str__) = true)
  (a_law : PySem.W.nsIn K mainGlobals ("law" : Str) = some (some (.ref f_law)))
  (l_law : K.lookup f_law = some ⟨oc_law, od_law, .func (PySem.W.fnOf ("law" : Str) ("law" : Str) (defArgs s_law) (defBody s_law) (defScope s_law) .none kv_law dc_law pm_law an_law cd_law ct_law), sl_law⟩)
  (c_law : PySem.W.codeIn K cd_law ("law" : Str) = true)
  (k_law : PySem.W.keepIn K (.ref f_law) = true)
  (xne_Share : PySem.W.findIn K (.ref C_Share) "__ne__" = some (some (.builtin "object.__ne__")))
  (z_NotImplemented : PySem.W.nsIn K mainGlobals ("NotImplemented" : Str) = some none)
  (qm_Share : PySem.W.mroIn K C_Share (.type "object") = some true)
  (nt_Share_NoneType : PySem.W.subIn K (.ref C_Share) (.type "NoneType") = some false)
  (nt_Share_bool : PySem.W.subIn K (.ref C_Share) (.type "bool") = some false)
  (nt_Share_str : PySem.W.subIn K (.ref C_Share) (.type "str") = some false)
  (nt_Share_list : PySem.W.subIn K (.ref C_Share) (.type "list") = some false)
  (nt_Share_tuple : PySem.W.subIn K (.ref C_Share) (.type "tuple") = some false)
  (nt_Share_dict : PySem.W.subIn K (.ref C_Share) (.type "dict") = some false)
  (pg_Share : PySem.W.plainGet K C_Share Str.empty = true)
  (hd_Share : PySem.W.hasDictIn K C_Share = true)
  (po_Share : PySem.W.plainOver K C_Share = true)
  (sa_Share : PySem.W.findIn K (.ref C_Share) "__setattr__" = some (some (.builtin "object.__setattr__")))
  (mk_Share : PySem.W.makesIn K C_Share = true)
  (kk_Share : PySem.W.keepIn K (.ref C_Share) = true)
  (z_len : PySem.W.nsIn K mainGlobals ("len" : Str) = some none)
  (z_abs : PySem.W.nsIn K mainGlobals ("abs" : Str) = some none)
  (z_int : PySem.W.nsIn K mainGlobals ("int" : Str) = some none)
  (z_isinstance : PySem.W.nsIn K mainGlobals ("isinstance" : Str) = some none)
  (z_bool : PySem.W.nsIn K mainGlobals ("bool" : Str) = some none)
  (zb_gcd : PySem.W.nsIn K mainGlobals "gcd" = some (some (.builtin "math.gcd")))
  (na_Share_top : PySem.W.findIn K (.ref C_Share) ("top" : Str) = some none)
  (na_Share_bottom : PySem.W.findIn K (.ref C_Share) ("bottom" : Str) = some none)
  (z_range : PySem.W.nsIn K mainGlobals ("range" : Str) = some none)
  (z_str : PySem.W.nsIn K mainGlobals ("str" : Str) = some none)
  (ex_BadShare : PySem.W.subIn K (.ref C_BadShare) (.type "BaseException") = some true)
  (ty_BadShare : PySem.W.typeIn K (.ref C_BadShare) = some (.type "type"))
  (xh_BadShare : PySem.W.hasDictIn K C_BadShare = true)
  (xl_BadShare : K.lookup C_BadShare = some (excClassObj nm_BadShare_init q_BadShare_init C_BadShare N_BadShare_init bs_BadShare_init bm_BadShare_init true sn_BadShare_init su_BadShare_init ab_BadShare_init co_BadShare_init dd_BadShare_init k0_BadShare_init k1_BadShare_init k2_BadShare_init k3_BadShare_init k5_BadShare_init "ValueError.__new__"))
  (xr_BadShare : PySem.HandSPX.refsVE bm_BadShare_init = true)
  (xs_BadShare : PySem.W.findIn K (.ref C_BadShare) "__setattr__" = some (some (.builtin "object.__setattr__")))
  (xi_BadShare : PySem.W.findIn K (.ref C_BadShare) "__init__" = some (some (.ref f_BadShare_init)))
  (xt_BadShare : PySem.W.typeIn K (.ref f_BadShare_init) = some (.type "function"))
  (xk_BadShare : PySem.W.keepIn K (.ref C_BadShare) = true)
  (xe_BadShare : PySem.W.excInitIn K C_BadShare DX.veTail "ValueError.__new__" = true)
  (xu_BadShare : PySem.W.ks_superIn K C_BadShare C_BadShare "__init__" = some (some (.builtin "ValueError.__init__")))
  (xv_BadShare : PySem.W.subIn K (.ref C_BadShare) (.type "ValueError") = some true)
  (xm_BadShare : PySem.W.mroIn K C_BadShare (.ref C_BadShare) = some true)
  (xp_BadShare : PySem.W.findIn K (.ref C_BadShare) ("part" : Str) = some none)
  (xc_BadShare : K.lookup f_BadShare_init = some ⟨oc_BadShare_init, od_BadShare_init, .func (PySem.W.ksFn "__init__" ("BadShare.__init__" : Str) (defArgs s_BadShare_init) (defBody s_BadShare_init) (defScope s_BadShare_init) .none .none dc_BadShare_init pm_BadShare_init an_BadShare_init (.ref da_BadShare_init) ct_BadShare_init cc_BadShare_init), sl_BadShare_init⟩)
  (xd_BadShare : PySem.W.codeIn K (.ref da_BadShare_init) ("BadShare.__init__" : Str) = true)
  (xo_BadShare : K.lookup da_BadShare_init = some ⟨e1_BadShare_init, e2_BadShare_init, .fields vs_BadShare_init, e3_BadShare_init⟩)
  (xq_BadShare : vs_BadShare_init[2]? = some (.str fi_BadShare_init tf_BadShare_init))
  (xw_BadShare : ((pgm.main.file : Str) == fi_BadShare_init) = true)
  (xz_BadShare : K.lookup cc_BadShare_init = some ⟨g1_BadShare_init, g2_BadShare_init, .cell (some (.ref C_BadShare)), g3_BadShare_init⟩)
  (z_super : PySem.W.nsIn K mainGlobals "super" = some none)
  (zt_any : PySem.W.nsIn K cStatics "thirdparty.any" = some none)
  (qa_Share : PySem.W.findIn K (.ref C_Share) "__class__" = some (some (.builtin "object.__class__")))
  (qi_Share : PySem.W.isClsIn K C_Share = true)
  (qt_Share : PySem.W.typeIn K (.ref C_Share) = some (.type "type"))
  (qb_Share_bool : PySem.W.mroIn K C_Share (.type "bool") = some false)
  (qb_Share_int : PySem.W.mroIn K C_Share (.type "int") = some false)
  (qb_Share_str : PySem.W.mroIn K C_Share (.type "str") = some false)
  (qb_Share_tuple : PySem.W.mroIn K C_Share (.type "tuple") = some false)
  (qb_Share_list : PySem.W.mroIn K C_Share (.type "list") = some false)
  (qb_Share_dict : PySem.W.mroIn K C_Share (.type "dict") = some false)
  (qn : PySem.W.specialIn K (.builtin "object.__class__") "__get__" = some (some (.builtin "getset_descriptor.__get__")))
  (qk : PySem.W.takesIn K (.builtin "object.__class__") = some true) :
  ∃ (fd : FuncData), (∀ (s : Shared) (u : Value), BindsTo s fd ⟨[u], []⟩ [(("_law_script" : Str), u)]) ∧ ∀ base : Heap, K.In base → base.Ns mainGlobals mg → SmB base → ∃ kap : Kp, kap.tab = [] ∧ FnG pgm w K mg base (L2.CX pgm w) 6 fa fd [("_law_script" : Str)] (spD K kap 1 none m_law) := by
  have e := hfa.symm.trans (PySem.W.mg_of X G a_law)
  cases e
  refine ⟨PySem.W.fnOf "law" "law" (defArgs s_law) (defBody s_law) (defScope s_law) .none kv_law dc_law pm_law an_law cd_law ct_law, fun s v => .of_eq rfl, fun base _ _ hsmB => ⟨(kapL [C_LabelError, C_BadShare, C_NoShare, 0, 0, 0, 0, 0, 0, 0, 0, 0, 0, 0, 0, 0, 0, 0, 0, 0, 0, 0, 0, 0, C_Share, 0, 0, 0, 0, 0, 0, 0]), rfl, ?_⟩⟩
  have hkk : KitK K (kapL [C_LabelError, C_BadShare, C_NoShare, 0, 0, 0, 0, 0, 0, 0, 0, 0, 0, 0, 0, 0, 0, 0, 0, 0, 0, 0, 0, 0, C_Share, 0, 0, 0, 0, 0, 0, 0]) [24] := ⟨(more_in ⟨⟨pg_Share, hd_Share, po_Share, sa_Share⟩, qa_Share, qn, qk, qm_Share, qi_Share, qt_Share, (more_in qb_Share_bool (more_in qb_Share_int (more_in qb_Share_str (more_in qb_Share_tuple (more_in qb_Share_list (more_in qb_Share_dict none_in))))))⟩ none_in), (more_in (more_in (fun z => absurd rfl z) none_in) none_in)⟩
  have T_BadShare : DX.XT pgm K C_BadShare f_BadShare_init da_BadShare_init cc_BadShare_init "__init__" ("BadShare.__init__" : Str) (defArgs s_BadShare_init) (defBody s_BadShare_init) (defScope s_BadShare_init) ("part" : Str) := { cls := ⟨_, _, _, _, _, _, _, _, _, _, _, _, _, _, _, xl_BadShare, xr_BadShare⟩, sa := xs_BadShare, iC := xi_BadShare, tC := xt_BadShare, kC := xk_BadShare, exC := ex_BadShare, tyC := ty_BadShare, ei := xe_BadShare, sI := xu_BadShare, ve := xv_BadShare, mC := xm_BadShare, any := zt_any, nos := z_super, noN := xp_BadShare, fn := ⟨_, _, _, _, _, _, _, xc_BadShare, xd_BadShare⟩, cdo := ⟨_, _, _, _, _, _, xo_BadShare, xq_BadShare, xw_BadShare⟩, cel := ⟨_, _, _, xz_BadShare⟩, top := rfl }
  have hx_BadShare : GX2 pgm w K mg (kapL [C_LabelError, C_BadShare, C_NoShare, 0, 0, 0, 0, 0, 0, 0, 0, 0, 0, 0, 0, 0, 0, 0, 0, 0, 0, 0, 0, 0, C_Share, 0, 0, 0, 0, 0, 0, 0]) ("BadShare" : Str) 1 ("part" : Str) okStr := ⟨C_BadShare, rfl, DX.x2_cat T_BadShare (by decide) rfl rfl rfl rfl rfl rfl rfl (by decide +kernel) (by decide) (by decide) rfl rfl (fun _ _ _ _ _ _ _ _ => .of_eq rfl) (fun _ => rfl) (fun _ => rfl) (fun _ => rfl) (fun _ => rfl), PySem.W.mg_of X G ac_BadShare⟩
  have F__law_start := fun_mk (st := s__law_start) l__law_start c__law_start k__law_start
  have O__law_start := ok__law_start (P := pgm) (w := w) (base := base) (mg := mg) (kap := (kapL [C_LabelError, C_BadShare, C_NoShare, 0, 0, 0, 0, 0, 0, 0, 0, 0, 0, 0, 0, 0, 0, 0, 0, 0, 0, 0, 0, 0, C_Share, 0, 0, 0, 0, 0, 0, 0])) F__law_start (n_len := (PySem.W.mg_none_of X G z_len)) (n_abs := (PySem.W.mg_none_of X G z_abs))
  have b__law_start := F__law_start.binds (ps := [("_law_script" : Str), ("_law_k" : Str)]) fun _ _ _ _ _ _ us hl => match us, hl with | [_, _], _ => rfl
  have hg__law_start : GF pgm w K mg base (kapL [C_LabelError, C_BadShare, C_NoShare, 0, 0, 0, 0, 0, 0, 0, 0, 0, 0, 0, 0, 0, 0, 0, 0, 0, 0, 0, 0, 0, C_Share, 0, 0, 0, 0, 0, 0, 0]) ("_law_start" : Str) 1 2 none m__law_start [] := ⟨.all O__law_start k__law_start b__law_start, PySem.W.mg_of X G a__law_start⟩
  have F__law_draw := fun_mk (st := s__law_draw) l__law_draw c__law_draw k__law_draw
  have O__law_draw := ok__law_draw (P := pgm) (w := w) (base := base) (mg := mg) (kap := (kapL [C_LabelError, C_BadShare, C_NoShare, 0, 0, 0, 0, 0, 0, 0, 0, 0, 0, 0, 0, 0, 0, 0, 0, 0, 0, 0, 0, 0, C_Share, 0, 0, 0, 0, 0, 0, 0])) F__law_draw (n_int := (PySem.W.mg_none_of X G z_int))
  have b__law_draw := F__law_draw.binds (ps := [("_law_state" : Str), ("_law_many" : Str)]) fun _ _ _ _ _ _ us hl => match us, hl with | [_, _], _ => rfl
  have hg__law_draw : GF pgm w K mg base (kapL [C_LabelError, C_BadShare, C_NoShare, 0, 0, 0, 0, 0, 0, 0, 0, 0, 0, 0, 0, 0, 0, 0, 0, 0, 0, 0, 0, 0, C_Share, 0, 0, 0, 0, 0, 0, 0]) ("_law_draw" : Str) 1 2 (some 0) m__law_draw [] := ⟨.all O__law_draw k__law_draw b__law_draw, PySem.W.mg_of X G a__law_draw⟩
  have F__law_number := fun_mk (st := s__law_number) l__law_number c__law_number k__law_number
  have O__law_number := ok__law_number (P := pgm) (w := w) (base := base) (mg := mg) (kap := (kapL [C_LabelError, C_BadShare, C_NoShare, 0, 0, 0, 0, 0, 0, 0, 0, 0, 0, 0, 0, 0, 0, 0, 0, 0, 0, 0, 0, 0, C_Share, 0, 0, 0, 0, 0, 0, 0])) F__law_number (g__law_draw := hg__law_draw) (n_int := (PySem.W.mg_none_of X G z_int))
  have b__law_number := F__law_number.binds (ps := [("_law_state" : Str), ("_law_limit" : Str)]) fun _ _ _ _ _ _ us hl => match us, hl with | [_, _], _ => rfl
  have hg__law_number : GF pgm w K mg base (kapL [C_LabelError, C_BadShare, C_NoShare, 0, 0, 0, 0, 0, 0, 0, 0, 0, 0, 0, 0, 0, 0, 0, 0, 0, 0, 0, 0, 0, C_Share, 0, 0, 0, 0, 0, 0, 0]) ("_law_number" : Str) 2 2 (some 0) m__law_number [] := ⟨.all O__law_number k__law_number b__law_number, PySem.W.mg_of X G a__law_number⟩
  have F_is_integer := fun_mk (st := s_is_integer) l_is_integer c_is_integer k_is_integer
  have O_is_integer := ok_is_integer (P := pgm) (w := w) (base := base) (mg := mg) (kap := (kapL [C_LabelError, C_BadShare, C_NoShare, 0, 0, 0, 0, 0, 0, 0, 0, 0, 0, 0, 0, 0, 0, 0, 0, 0, 0, 0, 0, 0, C_Share, 0, 0, 0, 0, 0, 0, 0])) F_is_integer (kk := hkk) (n_int := (PySem.W.mg_none_of X G z_int)) (n_isinstance := (PySem.W.mg_none_of X G z_isinstance)) (n_bool := (PySem.W.mg_none_of X G z_bool))
  have b_is_integer := F_is_integer.binds (ps := [("thing" : Str)]) fun _ _ _ _ _ _ us hl => match us, hl with | [_], _ => rfl
  have hg_is_integer : GF pgm w K mg base (kapL [C_LabelError, C_BadShare, C_NoShare, 0, 0, 0, 0, 0, 0, 0, 0, 0, 0, 0, 0, 0, 0, 0, 0, 0, 0, 0, 0, 0, C_Share, 0, 0, 0, 0, 0, 0, 0]) ("is_integer" : Str) 1 1 none m_is_integer [] := ⟨.all O_is_integer k_is_integer b_is_integer, PySem.W.mg_of X G a_is_integer⟩
  have F_Share_init : FunD K ("__init__" : Str) ("Share.__init__" : Str) (defArgs s_Share_init) (defBody s_Share_init) (defScope s_Share_init) [.int 1] [] f_Share_init _ := ⟨⟨_, _, _, _, _, _, _, _, _, _, rfl, l_Share_init, c_Share_init, .inr ⟨by simp, T_Share_init, o_Share_init, _, n_Share_init, rfl, lt_Share_init, ld_Share_init, (.cons ⟨_, rfl⟩ .nil)⟩, .inl rfl⟩, k_Share_init⟩
  have O_Share_init := ok_Share_init (P := pgm) (w := w) (base := base) (mg := mg) (kap := (kapL [C_LabelError, C_BadShare, C_NoShare, 0, 0, 0, 0, 0, 0, 0, 0, 0, 0, 0, 0, 0, 0, 0, 0, 0, 0, 0, 0, 0, C_Share, 0, 0, 0, 0, 0, 0, 0])) F_Share_init (g_is_integer := hg_is_integer) (x_BadShare := hx_BadShare) (b_gcd := (PySem.W.mg_of X G zb_gcd)) (a_Share_top := ⟨⟨pg_Share, hd_Share, po_Share, sa_Share⟩, na_Share_top⟩) (a_Share_bottom := ⟨⟨pg_Share, hd_Share, po_Share, sa_Share⟩, na_Share_bottom⟩)
  obtain ⟨ds_Share_init_0, hv_Share_init_0, hb_Share_init_0⟩ := FunD.binds1 (ps := [("self" : Str), ("top" : Str), ("bottom" : Str)]) F_Share_init 3 1 (by simp) (by rfl) (fun T kV doc pm an cdv ct us its h1 h2 => match us, h1, its, h2 with | [_, _, _], _, [_], _ => ⟨_, rfl, rfl⟩)
  have hmk_Share : GM pgm w K mg base (kapL [C_LabelError, C_BadShare, C_NoShare, 0, 0, 0, 0, 0, 0, 0, 0, 0, 0, 0, 0, 0, 0, 0, 0, 0, 0, 0, 0, 0, C_Share, 0, 0, 0, 0, 0, 0, 0]) ("Share" : Str) 24 2 3 m_Share_init [] := ⟨C_Share, rfl, ⟨f_Share_init, _, _, ds_Share_init_0, _, O_Share_init, k_Share_init, hb_Share_init_0, hv_Share_init_0, fun _ => .nil⟩, ⟨mk_Share, a_Share_init, i_Share_init, kk_Share⟩, PySem.W.mg_of X G ac_Share⟩
  obtain ⟨ds_Share_init_1, hv_Share_init_1, hb_Share_init_1⟩ := FunD.binds1 (ps := [("self" : Str), ("top" : Str), ("bottom" : Str)]) F_Share_init 2 0 (by simp) (by rfl) (fun T kV doc pm an cdv ct us its h1 h2 => match us, h1, its, h2 with | [_, _], _, [_], _ => ⟨_, rfl, rfl⟩)
  have hmk_Share_1 : GM pgm w K mg base (kapL [C_LabelError, C_BadShare, C_NoShare, 0, 0, 0, 0, 0, 0, 0, 0, 0, 0, 0, 0, 0, 0, 0, 0, 0, 0, 0, 0, 0, C_Share, 0, 0, 0, 0, 0, 0, 0]) ("Share" : Str) 24 2 3 m_Share_init [.int 1] := ⟨C_Share, rfl, ⟨f_Share_init, _, _, ds_Share_init_1, _, O_Share_init, k_Share_init, hb_Share_init_1, hv_Share_init_1, fun _ => (.cons (.int _) .nil)⟩, ⟨mk_Share, a_Share_init, i_Share_init, kk_Share⟩, PySem.W.mg_of X G ac_Share⟩
  have F__law_gcd := fun_mk (st := s__law_gcd) l__law_gcd c__law_gcd k__law_gcd
  have O__law_gcd := ok__law_gcd (P := pgm) (w := w) (base := base) (mg := mg) (kap := (kapL [C_LabelError, C_BadShare, C_NoShare, 0, 0, 0, 0, 0, 0, 0, 0, 0, 0, 0, 0, 0, 0, 0, 0, 0, 0, 0, 0, 0, C_Share, 0, 0, 0, 0, 0, 0, 0])) F__law_gcd (n_abs := (PySem.W.mg_none_of X G z_abs)) (n_range := (PySem.W.mg_none_of X G z_range)) (n_int := (PySem.W.mg_none_of X G z_int))
  have b__law_gcd := F__law_gcd.binds (ps := [("_law_one" : Str), ("_law_other" : Str)]) fun _ _ _ _ _ _ us hl => match us, hl with | [_, _], _ => rfl
  have hg__law_gcd : GF pgm w K mg base (kapL [C_LabelError, C_BadShare, C_NoShare, 0, 0, 0, 0, 0, 0, 0, 0, 0, 0, 0, 0, 0, 0, 0, 0, 0, 0, 0, 0, 0, C_Share, 0, 0, 0, 0, 0, 0, 0]) ("_law_gcd" : Str) 1 2 none m__law_gcd [] := ⟨.all O__law_gcd k__law_gcd b__law_gcd, PySem.W.mg_of X G a__law_gcd⟩
  have F_parts_of := fun_mk (st := s_parts_of) l_parts_of c_parts_of k_parts_of
  have O_parts_of := ok_parts_of (P := pgm) (w := w) (base := base) (mg := mg) (kap := (kapL [C_LabelError, C_BadShare, C_NoShare, 0, 0, 0, 0, 0, 0, 0, 0, 0, 0, 0, 0, 0, 0, 0, 0, 0, 0, 0, 0, 0, C_Share, 0, 0, 0, 0, 0, 0, 0])) F_parts_of (kk := hkk) (gc_Share := (PySem.W.mg_of X G ac_Share)) (kc_Share := rfl) (n_isinstance := (PySem.W.mg_none_of X G z_isinstance)) (a_Share_bottom := ⟨⟨pg_Share, hd_Share, po_Share, sa_Share⟩, na_Share_bottom⟩) (a_Share_top := ⟨⟨pg_Share, hd_Share, po_Share, sa_Share⟩, na_Share_top⟩)
  have b_parts_of := F_parts_of.binds (ps := [("thing" : Str)]) fun _ _ _ _ _ _ us hl => match us, hl with | [_], _ => rfl
  have hg_parts_of : GF pgm w K mg base (kapL [C_LabelError, C_BadShare, C_NoShare, 0, 0, 0, 0, 0, 0, 0, 0, 0, 0, 0, 0, 0, 0, 0, 0, 0, 0, 0, 0, 0, C_Share, 0, 0, 0, 0, 0, 0, 0]) ("parts_of" : Str) 1 1 none m_parts_of [] := ⟨.all O_parts_of k_parts_of b_parts_of, PySem.W.mg_of X G a_parts_of⟩
  have F_is_number := fun_mk (st := s_is_number) l_is_number c_is_number k_is_number
  have O_is_number := ok_is_number (P := pgm) (w := w) (base := base) (mg := mg) (kap := (kapL [C_LabelError, C_BadShare, C_NoShare, 0, 0, 0, 0, 0, 0, 0, 0, 0, 0, 0, 0, 0, 0, 0, 0, 0, 0, 0, 0, 0, C_Share, 0, 0, 0, 0, 0, 0, 0])) F_is_number (g_is_integer := hg_is_integer) (kk := hkk) (gc_Share := (PySem.W.mg_of X G ac_Share)) (kc_Share := rfl) (n_isinstance := (PySem.W.mg_none_of X G z_isinstance))
  have b_is_number := F_is_number.binds (ps := [("thing" : Str)]) fun _ _ _ _ _ _ us hl => match us, hl with | [_], _ => rfl
  have hg_is_number : GF pgm w K mg base (kapL [C_LabelError, C_BadShare, C_NoShare, 0, 0, 0, 0, 0, 0, 0, 0, 0, 0, 0, 0, 0, 0, 0, 0, 0, 0, 0, 0, 0, C_Share, 0, 0, 0, 0, 0, 0, 0]) ("is_number" : Str) 2 1 none m_is_number [] := ⟨.all O_is_number k_is_number b_is_number, PySem.W.mg_of X G a_is_number⟩
  have F_Share___eq__ := fun_mk (st := s_Share___eq__) l_Share___eq__ c_Share___eq__ k_Share___eq__
  have O_Share___eq__ := ok_Share___eq__ (P := pgm) (w := w) (base := base) (mg := mg) (kap := (kapL [C_LabelError, C_BadShare, C_NoShare, 0, 0, 0, 0, 0, 0, 0, 0, 0, 0, 0, 0, 0, 0, 0, 0, 0, 0, 0, 0, 0, C_Share, 0, 0, 0, 0, 0, 0, 0])) F_Share___eq__ (g_is_number := hg_is_number) (g_parts_of := hg_parts_of) (a_Share_top := ⟨⟨pg_Share, hd_Share, po_Share, sa_Share⟩, na_Share_top⟩) (a_Share_bottom := ⟨⟨pg_Share, hd_Share, po_Share, sa_Share⟩, na_Share_bottom⟩)
  have b_Share___eq__ := F_Share___eq__.binds (ps := [("self" : Str), ("other" : Str)]) fun _ _ _ _ _ _ us hl => match us, hl with | [_, _], _ => rfl
  have ONI_Share___eq__ := okNI_Share___eq__ (P := pgm) (w := w) (base := base) (mg := mg) (kap := (kapL [C_LabelError, C_BadShare, C_NoShare, 0, 0, 0, 0, 0, 0, 0, 0, 0, 0, 0, 0, 0, 0, 0, 0, 0, 0, 0, 0, 0, C_Share, 0, 0, 0, 0, 0, 0, 0])) F_Share___eq__ (PySem.W.mg_none_of X G z_NotImplemented) (g_is_number := hg_is_number)
  have honi_Share : OwnNI pgm w K mg base (kapL [C_LabelError, C_BadShare, C_NoShare, 0, 0, 0, 0, 0, 0, 0, 0, 0, 0, 0, 0, 0, 0, 0, 0, 0, 0, 0, 0, 0, C_Share, 0, 0, 0, 0, 0, 0, 0]) 3 24 cond_Share___eq__ := ⟨f_Share___eq__, _, _, ONI_Share___eq__, b_Share___eq__, a_Share___eq__, i_Share___eq__, qm_Share, xne_Share, nt_Share_NoneType, nt_Share_bool, nt_Share_str, nt_Share_list, nt_Share_tuple, nt_Share_dict⟩
  have hoc_Share_Eq : OwnC pgm w K mg base (kapL [C_LabelError, C_BadShare, C_NoShare, 0, 0, 0, 0, 0, 0, 0, 0, 0, 0, 0, 0, 0, 0, 0, 0, 0, 0, 0, 0, 0, C_Share, 0, 0, 0, 0, 0, 0, 0]) .Eq 3 24 m_Share___eq__ m_Share___eq__ := ⟨.all O_Share___eq__ k_Share___eq__ b_Share___eq__, .all O_Share___eq__ k_Share___eq__ b_Share___eq__, a_Share___eq__, i_Share___eq__, a_Share___eq__, i_Share___eq__, qb_Share_int⟩
  have hoq_Share : OwnNe pgm w K mg base (kapL [C_LabelError, C_BadShare, C_NoShare, 0, 0, 0, 0, 0, 0, 0, 0, 0, 0, 0, 0, 0, 0, 0, 0, 0, 0, 0, 0, 0, C_Share, 0, 0, 0, 0, 0, 0, 0]) 3 24 m_Share___eq__ := ⟨.all O_Share___eq__ k_Share___eq__ b_Share___eq__, a_Share___eq__, i_Share___eq__, qm_Share, xne_Share, qb_Share_int⟩
  have F_Share___lt__ := fun_mk (st := s_Share___lt__) l_Share___lt__ c_Share___lt__ k_Share___lt__
  have O_Share___lt__ := ok_Share___lt__ (P := pgm) (w := w) (base := base) (mg := mg) (kap := (kapL [C_LabelError, C_BadShare, C_NoShare, 0, 0, 0, 0, 0, 0, 0, 0, 0, 0, 0, 0, 0, 0, 0, 0, 0, 0, 0, 0, 0, C_Share, 0, 0, 0, 0, 0, 0, 0])) F_Share___lt__ (g_is_number := hg_is_number) (g_parts_of := hg_parts_of) (a_Share_top := ⟨⟨pg_Share, hd_Share, po_Share, sa_Share⟩, na_Share_top⟩) (a_Share_bottom := ⟨⟨pg_Share, hd_Share, po_Share, sa_Share⟩, na_Share_bottom⟩)
  have b_Share___lt__ := F_Share___lt__.binds (ps := [("self" : Str), ("other" : Str)]) fun _ _ _ _ _ _ us hl => match us, hl with | [_, _], _ => rfl
  have F_Share___gt__ := fun_mk (st := s_Share___gt__) l_Share___gt__ c_Share___gt__ k_Share___gt__
  have O_Share___gt__ := ok_Share___gt__ (P := pgm) (w := w) (base := base) (mg := mg) (kap := (kapL [C_LabelError, C_BadShare, C_NoShare, 0, 0, 0, 0, 0, 0, 0, 0, 0, 0, 0, 0, 0, 0, 0, 0, 0, 0, 0, 0, 0, C_Share, 0, 0, 0, 0, 0, 0, 0])) F_Share___gt__ (g_is_number := hg_is_number) (g_parts_of := hg_parts_of) (a_Share_top := ⟨⟨pg_Share, hd_Share, po_Share, sa_Share⟩, na_Share_top⟩) (a_Share_bottom := ⟨⟨pg_Share, hd_Share, po_Share, sa_Share⟩, na_Share_bottom⟩)
  have b_Share___gt__ := F_Share___gt__.binds (ps := [("self" : Str), ("other" : Str)]) fun _ _ _ _ _ _ us hl => match us, hl with | [_, _], _ => rfl
  have hoc_Share_Lt : OwnC pgm w K mg base (kapL [C_LabelError, C_BadShare, C_NoShare, 0, 0, 0, 0, 0, 0, 0, 0, 0, 0, 0, 0, 0, 0, 0, 0, 0, 0, 0, 0, 0, C_Share, 0, 0, 0, 0, 0, 0, 0]) .Lt 3 24 m_Share___lt__ m_Share___gt__ := ⟨.all O_Share___lt__ k_Share___lt__ b_Share___lt__, .all O_Share___gt__ k_Share___gt__ b_Share___gt__, a_Share___lt__, i_Share___lt__, a_Share___gt__, i_Share___gt__, qb_Share_int⟩
  have hoc_Share_Gt : OwnC pgm w K mg base (kapL [C_LabelError, C_BadShare, C_NoShare, 0, 0, 0, 0, 0, 0, 0, 0, 0, 0, 0, 0, 0, 0, 0, 0, 0, 0, 0, 0, 0, C_Share, 0, 0, 0, 0, 0, 0, 0]) .Gt 3 24 m_Share___gt__ m_Share___lt__ := ⟨.all O_Share___gt__ k_Share___gt__ b_Share___gt__, .all O_Share___lt__ k_Share___lt__ b_Share___lt__, a_Share___gt__, i_Share___gt__, a_Share___lt__, i_Share___lt__, qb_Share_int⟩
  have F_Share___le__ := fun_mk (st := s_Share___le__) l_Share___le__ c_Share___le__ k_Share___le__
  have O_Share___le__ := ok_Share___le__ (P := pgm) (w := w) (base := base) (mg := mg) (kap := (kapL [C_LabelError, C_BadShare, C_NoShare, 0, 0, 0, 0, 0, 0, 0, 0, 0, 0, 0, 0, 0, 0, 0, 0, 0, 0, 0, 0, 0, C_Share, 0, 0, 0, 0, 0, 0, 0])) F_Share___le__ (g_is_number := hg_is_number) (g_parts_of := hg_parts_of) (a_Share_top := ⟨⟨pg_Share, hd_Share, po_Share, sa_Share⟩, na_Share_top⟩) (a_Share_bottom := ⟨⟨pg_Share, hd_Share, po_Share, sa_Share⟩, na_Share_bottom⟩)
  have b_Share___le__ := F_Share___le__.binds (ps := [("self" : Str), ("other" : Str)]) fun _ _ _ _ _ _ us hl => match us, hl with | [_, _], _ => rfl
  have F_Share___ge__ := fun_mk (st := s_Share___ge__) l_Share___ge__ c_Share___ge__ k_Share___ge__
  have O_Share___ge__ := ok_Share___ge__ (P := pgm) (w := w) (base := base) (mg := mg) (kap := (kapL [C_LabelError, C_BadShare, C_NoShare, 0, 0, 0, 0, 0, 0, 0, 0, 0, 0, 0, 0, 0, 0, 0, 0, 0, 0, 0, 0, 0, C_Share, 0, 0, 0, 0, 0, 0, 0])) F_Share___ge__ (g_is_number := hg_is_number) (g_parts_of := hg_parts_of) (a_Share_top := ⟨⟨pg_Share, hd_Share, po_Share, sa_Share⟩, na_Share_top⟩) (a_Share_bottom := ⟨⟨pg_Share, hd_Share, po_Share, sa_Share⟩, na_Share_bottom⟩)
  have b_Share___ge__ := F_Share___ge__.binds (ps := [("self" : Str), ("other" : Str)]) fun _ _ _ _ _ _ us hl => match us, hl with | [_, _], _ => rfl
  have hoc_Share_LtE : OwnC pgm w K mg base (kapL [C_LabelError, C_BadShare, C_NoShare, 0, 0, 0, 0, 0, 0, 0, 0, 0, 0, 0, 0, 0, 0, 0, 0, 0, 0, 0, 0, 0, C_Share, 0, 0, 0, 0, 0, 0, 0]) .LtE 3 24 m_Share___le__ m_Share___ge__ := ⟨.all O_Share___le__ k_Share___le__ b_Share___le__, .all O_Share___ge__ k_Share___ge__ b_Share___ge__, a_Share___le__, i_Share___le__, a_Share___ge__, i_Share___ge__, qb_Share_int⟩
  have hoc_Share_GtE : OwnC pgm w K mg base (kapL [C_LabelError, C_BadShare, C_NoShare, 0, 0, 0, 0, 0, 0, 0, 0, 0, 0, 0, 0, 0, 0, 0, 0, 0, 0, 0, 0, 0, C_Share, 0, 0, 0, 0, 0, 0, 0]) .GtE 3 24 m_Share___ge__ m_Share___le__ := ⟨.all O_Share___ge__ k_Share___ge__ b_Share___ge__, .all O_Share___le__ k_Share___le__ b_Share___le__, a_Share___ge__, i_Share___ge__, a_Share___le__, i_Share___le__, qb_Share_int⟩
  have F__law_compares := fun_mk (st := s__law_compares) l__law_compares c__law_compares k__law_compares
  have O__law_compares := ok__law_compares (P := pgm) (w := w) (base := base) (mg := mg) (kap := (kapL [C_LabelError, C_BadShare, C_NoShare, 0, 0, 0, 0, 0, 0, 0, 0, 0, 0, 0, 0, 0, 0, 0, 0, 0, 0, 0, 0, 0, C_Share, 0, 0, 0, 0, 0, 0, 0])) F__law_compares (oc_Share_Eq := hoc_Share_Eq) (oc_Share_GtE := hoc_Share_GtE) (oc_Share_Gt := hoc_Share_Gt) (oc_Share_LtE := hoc_Share_LtE) (oc_Share_Lt := hoc_Share_Lt) (oq_Share := hoq_Share) (kk := hkk) (n_bool := (PySem.W.mg_none_of X G z_bool)) (n_isinstance := (PySem.W.mg_none_of X G z_isinstance))
  have b__law_compares := F__law_compares.binds (ps := [("_law_x" : Str), ("_law_y" : Str), ("_law_less" : Str), ("_law_equal" : Str)]) fun _ _ _ _ _ _ us hl => match us, hl with | [_, _, _, _], _ => rfl
  have hg__law_compares : GF pgm w K mg base (kapL [C_LabelError, C_BadShare, C_NoShare, 0, 0, 0, 0, 0, 0, 0, 0, 0, 0, 0, 0, 0, 0, 0, 0, 0, 0, 0, 0, 0, C_Share, 0, 0, 0, 0, 0, 0, 0]) ("_law_compares" : Str) 5 4 none m__law_compares [] := ⟨.all O__law_compares k__law_compares b__law_compares, PySem.W.mg_of X G a__law_compares⟩
  have F_Share___str__ := fun_mk (st := s_Share___str__) l_Share___str__ c_Share___str__ k_Share___str__
  have O_Share___str__ := ok_Share___str__ (P := pgm) (w := w) (base := base) (mg := mg) (kap := (kapL [C_LabelError, C_BadShare, C_NoShare, 0, 0, 0, 0, 0, 0, 0, 0, 0, 0, 0, 0, 0, 0, 0, 0, 0, 0, 0, 0, 0, C_Share, 0, 0, 0, 0, 0, 0, 0])) F_Share___str__ (a_Share_bottom := ⟨⟨pg_Share, hd_Share, po_Share, sa_Share⟩, na_Share_bottom⟩) (a_Share_top := ⟨⟨pg_Share, hd_Share, po_Share, sa_Share⟩, na_Share_top⟩) (n_str := (PySem.W.mg_none_of X G z_str))
  have b_Share___str__ := F_Share___str__.binds (ps := [("self" : Str)]) fun _ _ _ _ _ _ us hl => match us, hl with | [_], _ => rfl
  have hos_Share : OwnS pgm w K mg base (kapL [C_LabelError, C_BadShare, C_NoShare, 0, 0, 0, 0, 0, 0, 0, 0, 0, 0, 0, 0, 0, 0, 0, 0, 0, 0, 0, 0, 0, C_Share, 0, 0, 0, 0, 0, 0, 0]) 1 24 m_Share___str__ := ⟨.all O_Share___str__ k_Share___str__ b_Share___str__, a_Share___str__, i_Share___str__⟩
  have F_law := fun_mk (st := s_law) l_law c_law k_law
  exact ok_law (P := pgm) (w := w) (base := base) (kap := (kapL [C_LabelError, C_BadShare, C_NoShare, 0, 0, 0, 0, 0, 0, 0, 0, 0, 0, 0, 0, 0, 0, 0, 0, 0, 0, 0, 0, 0, C_Share, 0, 0, 0, 0, 0, 0, 0])) F_law (n_range := (PySem.W.mg_none_of X G z_range)) (n_len := (PySem.W.mg_none_of X G z_len)) (g__law_start := hg__law_start) (g__law_draw := hg__law_draw) (g__law_number := hg__law_number) (n_abs := (PySem.W.mg_none_of X G z_abs)) (mk_Share := hmk_Share) (g__law_compares := hg__law_compares) (mk_Share_1 := hmk_Share_1) (oc_Share_Eq := hoc_Share_Eq) (oni_Share := honi_Share) (oq_Share := hoq_Share) (g__law_gcd := hg__law_gcd) (n_str := (PySem.W.mg_none_of X G z_str)) (os_Share := hos_Share)
open PySem.Spec PyProof.Rows in
theorem walk {q : Program} {loose : List Str} {XP : (Str → Option Value) → Heap → Prop} {YP : World → Heap → Prop} {d : DefRec} {K : Params → PySem.W.Frag} (hp : ∀ ns : List Int, ns.length ≤ 63 → ∃ q, m_law [.scr (ns.map .int)] = .ret (.bl true) q) (hdf : d.params.defaults = []) (him : importsNone q = true)
    (hY : ∀ (w : World) (h : Heap), YP w h → (K w.params).In h)
    (F : ∀ (w : World) (mg : Str → Option Value) (fa : Addr) (h : Heap), (K w.params).In h → h.Ns mainGlobals mg → mg d.name = some (.ref fa) →
      ∃ fd : FuncData, (∀ (s : Shared) (u : Value), BindsTo s fd ⟨[u], []⟩ [(("_law_script" : Str), u)]) ∧ ∀ base : Heap, (K w.params).In base → base.Ns mainGlobals mg → SmB base → ∃ kap : Kp, kap.tab = [] ∧ FnG pgm w (K w.params) mg base (L2.CX pgm w) 6 fa fd [("_law_script" : Str)] (spD (K w.params) kap 1 none m_law)) :
    PySem.W.WalkO q loose XP YP (PySem.Challenge.rw_labelgaps_k04_share_order_and_text).row.toRowW d [] (fun f vs => PySem.call f vs) :=
  walkG_of (l := PySem.Challenge.rw_labelgaps_k04_share_order_and_text) (n := 63) (k := 6) (x := ("_law_script" : Str)) (CX := fun w => L2.CX pgm w) (sp := fun w => spLaw 63 (K w.params)) rfl (by decide) hdf ⟨⟨rfl, by decide, by decide⟩, rfl⟩ him hY 
    (fun w mg fa h KX G hmg => by
      obtain ⟨fd, hb, hF⟩ := F w mg fa h KX G hmg
      refine ⟨fd, hb, fun base b1 b2 b3 => ?_⟩
      obtain ⟨kap, ht, ok⟩ := hF base b1 b2 b3
      exact ok.imp (law_imp hp ht))
    (fun _ _ a ns hl hO hS => ⟨a, ns, rfl, hS, hl, tabs_only hO, fun _ => rfl⟩) fun w H s e s' z => cx_end H s e s' z
end Lw
set_option maxHeartbeats 4000000
set_option exponentiation.threshold 300
namespace Lw
open DL L2
structure DS where
  a : Nat
  c : Nat
def stD (s : DS) : D := .lst [.int s.a, .int s.c]
def Ok (n : Nat) (s : DS) : Prop := s.c + n < 2 ^ 60
theorem Ok.mono {n m : Nat} {s : DS} (h : Ok n s) (l : m ≤ n) : Ok m s := by unfold Ok at *; omega
theorem h_drawL {n : Nat} (s : DS) (many : Int) (hs : Ok (n + 1) s) (hm : 0 < many) (hm2 : many < 2 ^ 190) :
    ∃ (r : Nat) (s' : DS), m__law_draw [stD s, .int many] = .ret (.int r) (some (stD s')) ∧ (r : Int) < many ∧ Ok n s' := by
  obtain ⟨a0, c0⟩ := s
  have h4 : cPow 10 18 = true := by decide
  have hc : c0 + (n + 1) < 2 ^ 60 := hs
  obtain ⟨a, ha⟩ : ∃ a : Int, (a0 : Int) = a := ⟨_, rfl⟩
  obtain ⟨c, hcc⟩ : ∃ c : Int, (c0 : Int) = c := ⟨_, rfl⟩
  have key : ∃ r a' : Int, m__law_draw [.lst [.int a, .int c], .int many] = .ret (.int r) (some (.lst [.int a', .int (c + 1)])) ∧ 0 ≤ r ∧ r < many ∧ 0 ≤ a' := by
    by_cases h : (1000000000000000000 : Int) ≤ a
    · have h1 : cDiv a many = true := cDiv_ok hm (by omega)
      have h2 : cMod a many = true := cMod_ok hm
      refine ⟨a % many, a / many, ?_, Int.emod_nonneg _ (by omega), Int.emod_lt_of_pos _ hm, Int.ediv_nonneg (by omega) (by omega)⟩
      simp [m__law_draw, DL.run, e__law_draw, h1, h2, h, h4]
    · obtain ⟨x1, e1⟩ : ∃ x, a + 104729 * (c + 1) + 1 = x := ⟨_, rfl⟩
      obtain ⟨x2, e2⟩ : ∃ x, x1 * 48271 % 2147483647 = x := ⟨_, rfl⟩
      obtain ⟨x3, e3⟩ : ∃ x, x2 * (x2 / 1009 + 69621) % 2147483647 = x := ⟨_, rfl⟩
      obtain ⟨x4, e4⟩ : ∃ x, x3 * (x3 / 2003 + 40692) % 2147483399 = x := ⟨_, rfl⟩
      have b1 : 0 ≤ x1 ∧ x1 < 2 ^ 100 := by omega
      have b2 : 0 ≤ x2 ∧ x2 < 2147483647 := by rw [← e2]; exact ⟨Int.emod_nonneg _ (by decide), Int.emod_lt_of_pos _ (by decide)⟩
      have b3 : 0 ≤ x3 ∧ x3 < 2147483647 := by rw [← e3]; exact ⟨Int.emod_nonneg _ (by decide), Int.emod_lt_of_pos _ (by decide)⟩
      have m1 : cMul 104729 (c + 1) = true := cMul_ok (by decide) (by omega)
      have m2 : cMul x1 48271 = true := cMul_ok (by omega) (by decide)
      have m3 : cMul x2 (x2 / 1009 + 69621) = true := cMul_ok (by omega) (by omega)
      have m4 : cMul x3 (x3 / 2003 + 40692) = true := cMul_ok (by omega) (by omega)
      have d1 : cMod (x1 * 48271) 2147483647 = true := cMod_ok (by decide)
      have d2 : cMod (x2 * (x2 / 1009 + 69621)) 2147483647 = true := cMod_ok (by decide)
      have d3 : cMod (x3 * (x3 / 2003 + 40692)) 2147483399 = true := cMod_ok (by decide)
      have d4 : cMod (x4 / 64) many = true := cMod_ok hm
      have f1 : cDiv x2 1009 = true := cDiv_ok (by decide) (by decide)
      have f2 : cDiv x3 2003 = true := cDiv_ok (by decide) (by decide)
      have f3 : cDiv x4 64 = true := cDiv_ok (by decide) (by decide)
      refine ⟨x4 / 64 % many, a, ?_, Int.emod_nonneg _ (by omega), Int.emod_lt_of_pos _ hm, by omega⟩
      simp [m__law_draw, DL.run, e__law_draw, h, h4, e1, e2, e3, e4, m1, m2, m3, m4, d1, d2, d3, d4, f1, f2, f3]
  obtain ⟨r, a', e, h0, h1, h2⟩ := key
  obtain ⟨r, rfl⟩ := Int.eq_ofNat_of_zero_le h0
  obtain ⟨a', rfl⟩ := Int.eq_ofNat_of_zero_le h2
  refine ⟨r, ⟨a', c0 + 1⟩, ?_, h1, by show c0 + 1 + n < 2 ^ 60; omega⟩
  have e5 : stD ⟨a0, c0⟩ = .lst [.int a, .int c] := by rw [← ha, ← hcc]; rfl
  have e6 : stD ⟨a', c0 + 1⟩ = .lst [.int a', .int (c + 1)] := by rw [← hcc]; rfl
  rw [e5, e6, e]
theorem h_draw {n : Nat} (s : DS) (many : Int) (hs : Ok (n + 1) s) (hm : 0 < many) (hm2 : many < 2 ^ 64) :
    ∃ (r : Nat) (s' : DS), m__law_draw [stD s, .int many] = .ret (.int r) (some (stD s')) ∧ (r : Int) < many ∧ Ok n s' := h_drawL s many hs hm (by omega)
theorem h_start (ns : List Int) (k : Nat) (j : Int) (hj : j = k) (hk : k < 2 ^ 30) : ∃ s, m__law_start [.scr (ns.map .int), .int j] = .retF (stD s) none ∧ Ok (2 ^ 50) s := by
  subst hj
  have m1 : cMul 1000 k = true := cMul_ok (by decide) (by omega)
  by_cases h : k < ns.length
  · have e1 : ((k : Int) < (ns.length : Int)) := by omega
    have e2 : atI (ns.map D.int) (k : Int) = some (.int ns[k]) := by rw [atI_n]; simp [h]
    refine ⟨⟨ns[k].natAbs, 1000 * k⟩, ?_, by show 1000 * k + 2 ^ 50 < 2 ^ 60; omega⟩
    have e3 : (if ns[k] < 0 then -ns[k] else ns[k]) = ((ns[k].natAbs : Nat) : Int) := by omega
    simp [m__law_start, DL.run, e__law_start, m1, e1, e2, stD, e3]
  · have e1 : ¬ ((k : Int) < (ns.length : Int)) := by omega
    refine ⟨⟨0, 1000 * k⟩, ?_, by show 1000 * k + 2 ^ 50 < 2 ^ 60; omega⟩
    simp [m__law_start, DL.run, e__law_start, m1, e1, stD]
def Pl : D → Bool
  | .scr _ => false
  | .fn _ _ => false
  | .any => false
  | .cls _ => false
  | .obj _ _ => false
  | _ => true
def isI : D → Bool
  | .int _ => true
  | _ => false
@[simp] theorem isI_int (i : Int) : isI (.int i) = true := rfl
@[simp] theorem Pl_int (i : Int) : Pl (.int i) = true := rfl
theorem p_integer (d : D) (h : Pl d = true) : m_is_integer [d] = .ret (.bl (isI d)) none := by
  cases d <;> first | (cases h; done) | simp [m_is_integer, DL.run, e_is_integer, isI]
theorem atI_some {α : Type} (l : List α) (r : Nat) (h1 : r < l.length) : atI l (r : Int) = some l[r] := by rw [atI_n]; simp [h1]
end Lw
namespace Lw
open DL L2
theorem h_numberL {n : Nat} (s : DS) (L : Int) (hL : L = 10 ^ 50) (hs : Ok (n + 3) s) : ∃ (x : Int) (s' : DS), m__law_number [stD s, .int L] = .ret (.int x) (some (stD s')) ∧ x.natAbs < 2 ^ 170 ∧ Ok n s' := by
  have h18 : cPow 10 18 = true := by decide
  have h7 : cPow 10 7 = true := by decide
  have st0 : fIx (stD s) (.int 0) = some (.int s.a) := by simp [stD]
  by_cases hb : (1000000000000000000 : Int) ≤ s.a
  · obtain ⟨r, s1, e1, k1, o1⟩ := h_drawL (n := n + 2) s (2 * L + 1) hs (by rw [hL]; decide) (by rw [hL]; decide)
    have m1 : cMul 2 L = true := by rw [hL]; exact cMul_ok (by decide) (by decide)
    refine ⟨(r : Int) - L, s1, ?_, by omega, o1.mono (by omega)⟩
    simp [m__law_number, DL.run, e__law_number, st0, h18, hb, m1, e1]
  · obtain ⟨r1, s1, e1, k1, o1⟩ := h_draw (n := n + 2) s 4 hs (by decide) (by decide)
    obtain ⟨r2, s2, e2, k2, o2⟩ := h_draw (n := n + 1) s1 25 o1 (by decide) (by decide)
    obtain ⟨r3, s3, e3, k3, o3⟩ := h_draw (n := n) s2 10000000 o2 (by decide) (by decide)
    obtain ⟨q, hq⟩ : ∃ q : Nat, (r3 + 1) ^ 5 = q := ⟨_, rfl⟩
    have hq2 : q ≤ 10000000 ^ 5 := by rw [← hq]; exact Nat.pow_le_pow_left (by omega) 5
    have hqi : ((r3 : Int) + 1) ^ 5 = (q : Int) := by rw [← hq]; push_cast; rfl
    have c5 : cPow ((r3 : Int) + 1) 5 = true := by
      unfold cPow
      rw [decide_eq_true (by decide), decide_eq_true (by decide), decide_eq_true (by omega)]
      rfl
    have cm : cMod (r3 : Int) 1000 = true := cMod_ok (by decide)
    have m1 : cMul ((r2 : Int) - 12) ((r3 : Int) + 1) = true := cMul_ok (by omega) (by omega)
    have m2 : cMul ((r2 : Int) - 12) (q : Int) = true := cMul_ok (by omega) (by omega)
    by_cases c0 : r1 = 0
    · subst c0
      exact ⟨(r2 : Int) - 12, s3, by simp [m__law_number, DL.run, e__law_number, st0, h18, h7, hb, e1, e2, e3], by omega, o3⟩
    by_cases c1 : r1 = 1
    · subst c1
      exact ⟨(r3 : Int) % 1000 - 500, s3, by simp [m__law_number, DL.run, e__law_number, st0, h18, h7, hb, e1, e2, e3, cm], by omega, o3⟩
    have d0 : ¬ (r1 : Int) = 0 := by omega
    have d1 : ¬ (r1 : Int) = 1 := by omega
    by_cases c2 : r1 = 2
    · subst c2
      refine ⟨((r2 : Int) - 12) * ((r3 : Int) + 1), s3, by simp [m__law_number, DL.run, e__law_number, st0, h18, h7, hb, e1, e2, e3, m1], ?_, o3⟩
      rw [Int.natAbs_mul]
      have : ((r2 : Int) - 12).natAbs * ((r3 : Int) + 1).natAbs ≤ 12 * 10000000 := Nat.mul_le_mul (by omega) (by omega)
      omega
    · have d2 : ¬ (r1 : Int) = 2 := by omega
      refine ⟨((r2 : Int) - 12) * (q : Int) + r3, s3, by simp [m__law_number, DL.run, e__law_number, st0, h18, h7, hb, e1, e2, e3, c0, c1, c2, d0, d1, d2, c5, hqi, m2], ?_, o3⟩
      have h1 : (((r2 : Int) - 12) * (q : Int)).natAbs ≤ 12 * 10000000 ^ 5 := by
        rw [Int.natAbs_mul]
        exact Nat.mul_le_mul (by omega) (by omega)
      omega
theorem h_number {n : Nat} (s : DS) (hs : Ok (n + 3) s) : ∃ (x : Int) (s' : DS), m__law_number [stD s, .int 100000000000000000000000000000000000000000000000000] = .ret (.int x) (some (stD s')) ∧ x.natAbs < 2 ^ 170 ∧ Ok n s' := h_numberL s _ (by decide) hs
theorem gcd_step (a b : Nat) : Nat.gcd a b = Nat.gcd b (a % b) := by rw [Nat.gcd_comm a b, Nat.gcd_rec b a, Nat.gcd_comm]
theorem mod_half {b r m : Nat} (hr : 0 < r) (hrb : r < b) (hb : b < 2 ^ (m + 1)) : b % r < 2 ^ m := by
  rw [Nat.pow_succ] at hb
  have h1 := Nat.mod_lt b hr
  by_cases h : r ≤ 2 ^ m
  · omega
  · have e : b % r = b - r := by
      rw [Nat.mod_eq_sub_mod (by omega), Nat.mod_eq_of_lt (by omega)]
    omega
theorem gl_b0 (a : Nat) (d : D) : lb__law_gcd_1 [.va (.int a), .va (.int 0), .va d, .no] = .brk [.va (.int a), .va (.int 0), .no, .no] := by simp [lb__law_gcd_1]
theorem gl_b1 (a b : Nat) (hb : 0 < b) (d : D) : lb__law_gcd_1 [.va (.int a), .va (.int b), .va d, .no] = .nx [.va (.int b), .va (.int ((a % b : Nat) : Int)), .no, .no] := by
  have h : ¬ (b : Int) = 0 := by omega
  have h' : ¬ b = 0 := by omega
  have c : cMod (a : Int) (b : Int) = true := cMod_ok (by omega)
  simp [lb__law_gcd_1, h, h', c]
theorem gl_loop : ∀ (m : Nat) (l : List D) (a b : Nat), b < 2 ^ m → 2 * m + 1 ≤ l.length → vLoop (tName 2) lb__law_gcd_1 l [.va (.int a), .va (.int b), .no, .no] = .nx [.va (.int (Nat.gcd a b : Nat)), .va (.int 0), .no, .no]
  | m, [], a, b, _, hl => by simp at hl
  | 0, d :: l, a, b, hb, hl => by
    have : b = 0 := by omega
    subst this
    have e := gl_b0 a d
    simp [e]
  | m + 1, d :: l, a, b, hb, hl => by
    by_cases h0 : b = 0
    · subst h0
      have e := gl_b0 a d
      simp [e]
    · have e := gl_b1 a b (by omega) d
      rw [vLoop_nx (de1 := [.va (.int a), .va (.int b), .va d, .no]) (by simp) e]
      cases l with
      | nil => simp at hl
      | cons d2 l =>
        by_cases h1 : a % b = 0
        · rw [h1]
          have e2 := gl_b0 b d2
          have : Nat.gcd a b = b := by rw [gcd_step, h1, Nat.gcd_zero_right]
          rw [this]
          simp at e2 ⊢
          simp [e2]
        · have e2 := gl_b1 b (a % b) (by omega) d2
          rw [vLoop_nx (de1 := [.va (.int b), .va (.int ((a % b : Nat) : Int)), .va d2, .no]) (by simp) e2]
          have ih := gl_loop m l (a % b) (b % (a % b)) (mod_half (by omega) (Nat.mod_lt _ (by omega)) hb) (by simp at hl; omega)
          rw [ih, gcd_step a b, gcd_step b (a % b)]
theorem h_gcdB (a b : Int) (hb : b.natAbs < 2 ^ 499) : m__law_gcd [.int a, .int b] = .ret (.int (Nat.gcd a.natAbs b.natAbs : Nat)) none := by
  have e := gl_loop 499 (rangeD 0 1000) a.natAbs b.natAbs hb (by rw [rangeD_length]; decide)
  have e1 : ∀ z : Int, (if z < 0 then -z else z) = ((z.natAbs : Nat) : Int) := fun z => by split <;> omega
  have er : ∀ de, rngA (.int 1000) de = .ok (rangeD 0 1000) de := fun de => rngE (n := 1000) rfl (by decide) de
  simp [m__law_gcd, DL.run, e__law_gcd, e1, er, e]
theorem share_math (high low : Int) (h0 : low ≠ 0) : ∃ g t b : Int, g = (if low < 0 then -((Nat.gcd high.natAbs low.natAbs : Nat) : Int) else ((Nat.gcd high.natAbs low.natAbs : Nat) : Int)) ∧ g ≠ 0 ∧ g.natAbs ≤ low.natAbs ∧ high.fdiv g = t ∧ low.fdiv g = b ∧ 0 < b ∧ Nat.gcd t.natAbs b.natAbs = 1 ∧ t * low = high * b ∧ t.natAbs ≤ high.natAbs ∧ b.natAbs ≤ low.natAbs := by
  obtain ⟨G, hG⟩ : ∃ G, Nat.gcd high.natAbs low.natAbs = G := ⟨_, rfl⟩
  have hl0 : 0 < low.natAbs := by omega
  have hGp : 0 < G := by rw [← hG]; exact Nat.gcd_pos_of_pos_right _ hl0
  have hGl : G ≤ low.natAbs := by rw [← hG]; exact Nat.gcd_le_right _ hl0
  rw [hG]
  obtain ⟨g, hg⟩ : ∃ g : Int, g = (if low < 0 then -(G : Int) else (G : Int)) := ⟨_, rfl⟩
  have hgn : g.natAbs = G := by rw [hg]; split <;> omega
  have hg0 : g ≠ 0 := by omega
  have d1 : g ∣ high := Int.natAbs_dvd_natAbs.mp (by rw [hgn, ← hG]; exact Nat.gcd_dvd_left _ _)
  have d2 : g ∣ low := Int.natAbs_dvd_natAbs.mp (by rw [hgn, ← hG]; exact Nat.gcd_dvd_right _ _)
  obtain ⟨t, ht⟩ := d1
  obtain ⟨b, hb⟩ := d2
  have e1 : high.fdiv g = t := by rw [ht]; exact Int.mul_fdiv_cancel_left t hg0
  have e2 : low.fdiv g = b := by rw [hb]; exact Int.mul_fdiv_cancel_left b hg0
  have n1 : high.natAbs = G * t.natAbs := by rw [ht, Int.natAbs_mul, hgn]
  have n2 : low.natAbs = G * b.natAbs := by rw [hb, Int.natAbs_mul, hgn]
  have hb0 : 0 < b := by
    by_cases hn : low < 0
    · rw [if_pos hn] at hg
      rcases Int.lt_trichotomy b 0 with c | c | c
      · have : 0 < g * b := Int.mul_pos_of_neg_of_neg (by omega) c
        omega
      · rw [c, Int.mul_zero] at hb; omega
      · exact c
    · rw [if_neg hn] at hg
      rcases Int.lt_trichotomy b 0 with c | c | c
      · have : g * b < 0 := Int.mul_neg_of_pos_of_neg (by omega) c
        omega
      · rw [c, Int.mul_zero] at hb; omega
      · exact c
  refine ⟨g, t, b, hg, hg0, by omega, e1, e2, hb0, ?_, ?_, ?_, ?_⟩
  · rw [n1, n2, Nat.gcd_mul_left] at hG
    exact Nat.eq_of_mul_eq_mul_left hGp (by rw [hG, Nat.mul_one])
  · rw [ht, hb, Int.mul_left_comm, Int.mul_assoc]
  · rw [n1]; exact Nat.le_mul_of_pos_left _ hGp
  · rw [n2]; exact Nat.le_mul_of_pos_left _ hGp
theorem pow_up {n a b : Nat} (h : n < 2 ^ a) (hk : a ≤ b) : n < 2 ^ b := Nat.lt_of_lt_of_le h (Nat.pow_le_pow_right (by decide) hk)
theorem cMul_B {i j : Int} (h1 : i.natAbs < 2 ^ 3000) (h2 : j.natAbs < 2 ^ 3000) : cMul i j = true := by
  unfold cMul
  rw [decide_eq_true (pow_up h1 (by decide)), decide_eq_true (pow_up h2 (by decide))]
  rfl
theorem mul_B {a b m n : Nat} (h1 : a < 2 ^ m) (h2 : b < 2 ^ n) : a * b < 2 ^ (m + n) := by
  rw [Nat.pow_add]
  exact Nat.mul_lt_mul'' h1 h2
def shQ (q : Rat) : D := .obj 24 [("top", .int q.num), ("bottom", .int q.den)]
def Bq (N : Nat) (q : Rat) : Prop := q.num.natAbs < 2 ^ N ∧ q.den < 2 ^ N
theorem Bq.up {m n : Nat} {q : Rat} (h : Bq m q) (hk : m ≤ n) : Bq n q := ⟨pow_up h.1 hk, pow_up h.2 hk⟩
@[simp] theorem sh_top (q : Rat) : fFld [24] "top" (shQ q) = some (.int q.num) := by simp [shQ]
@[simp] theorem sh_bot (q : Rat) : fFld [24] "bottom" (shQ q) = some (.int q.den) := by simp [shQ]
@[simp] theorem sh_ty (q : Rat) : tyOf (shQ q) = some (.o 24) := rfl
def Opd (d : D) (q : Rat) : Prop := d = shQ q ∨ ∃ n : Int, d = .int n ∧ q = (n : Rat)
theorem opd_s (q : Rat) : Opd (shQ q) q := .inl rfl
theorem opd_i (n : Int) : Opd (.int n) (n : Rat) := .inr ⟨n, rfl, rfl⟩
theorem divInt_parts (high low : Int) (h0 : low ≠ 0) : ∃ g : Int, g = (if low < 0 then -((Nat.gcd high.natAbs low.natAbs : Nat) : Int) else ((Nat.gcd high.natAbs low.natAbs : Nat) : Int)) ∧ g ≠ 0 ∧ g.natAbs ≤ low.natAbs ∧ high.fdiv g = (Rat.divInt high low).num ∧ low.fdiv g = ((Rat.divInt high low).den : Int) ∧
    (Rat.divInt high low).num.natAbs ≤ high.natAbs ∧ (Rat.divInt high low).den ≤ low.natAbs := by
  obtain ⟨g, t, b, hg, hg0, hgl, e1, e2, k1, k2, k3, k4, k5⟩ := share_math high low h0
  have hb : b = ((b.natAbs : Nat) : Int) := by omega
  have hq : Rat.divInt high low = ⟨t, b.natAbs, by omega, k2⟩ := by
    rw [Rat.mk_eq_divInt, ← hb]
    exact (Rat.divInt_eq_divInt_iff h0 (by omega)).mpr k3.symm
  refine ⟨g, hg, hg0, hgl, ?_, ?_, ?_, ?_⟩
  · rw [hq, e1]
  · rw [hq, e2]; exact hb
  · rw [hq]; exact k4
  · rw [hq]; exact k5
theorem bq_div {N : Nat} {high low : Int} (h0 : low ≠ 0) (h1 : high.natAbs < 2 ^ N) (h2 : low.natAbs < 2 ^ N) : Bq N (Rat.divInt high low) := by
  obtain ⟨g, _, _, _, _, _, k1, k2⟩ := divInt_parts high low h0
  exact ⟨Nat.lt_of_le_of_lt k1 h1, Nat.lt_of_le_of_lt k2 h2⟩
theorem bq_int {N : Nat} {n : Int} (h : n.natAbs < 2 ^ N) (hN : 0 < N) : Bq N (n : Rat) := ⟨h, Nat.one_lt_two_pow (by omega)⟩
theorem divInt_q (q : Rat) : Rat.divInt q.num q.den = q := Rat.num_divInt_den q
theorem p_shareQ (high low : Int) (h0 : low ≠ 0) (hl : low.natAbs < 2 ^ 8000) : m_Share_init [.obj 24 [], .int high, .int low] = .ret .non (some (shQ (Rat.divInt high low))) := by
  obtain ⟨g, hg, hg0, hgl, e1, e2, _, _⟩ := divInt_parts high low h0
  have cg : ∀ i, cDivG i g = true := fun i => by
    unfold cDivG
    rw [decide_eq_true hg0, decide_eq_true (Nat.lt_of_le_of_lt hgl hl)]
    rfl
  have ei : ∀ z : Int, m_is_integer [.int z] = .ret (.bl true) none := fun z => p_integer (.int z) rfl
  have eg : fGcd [.int high, .int low] = some (.int ((Nat.gcd high.natAbs low.natAbs : Nat) : Int)) := rfl
  generalize ((Nat.gcd high.natAbs low.natAbs : Nat) : Int) = G at *
  unfold shQ
  generalize Rat.divInt high low = Q at *
  by_cases hn : low < 0
  · rw [if_pos hn] at hg
    subst hg
    simp [m_Share_init, DL.run, e_Share_init, ei, h0, eg, hn, cg, e1, e2]
  · rw [if_neg hn] at hg
    subst hg
    simp [m_Share_init, DL.run, e_Share_init, ei, h0, eg, hn, cg, e1, e2]
theorem p_isnum {d : D} {q : Rat} (h : Opd d q) : m_is_number [d] = .ret (.bl true) none := by
  rcases h with rfl | ⟨n, rfl, rfl⟩
  · have e : m_is_integer [shQ q] = .ret (.bl false) none := by simp [m_is_integer, DL.run, e_is_integer]
    simp [m_is_number, DL.run, e_is_number, e]
  · have e : m_is_integer [.int n] = .ret (.bl true) none := p_integer (.int n) rfl
    simp [m_is_number, DL.run, e_is_number, e]
theorem p_parts {d : D} {q : Rat} (h : Opd d q) : m_parts_of [d] = .ret (.tup [.int q.num, .int q.den]) none := by
  rcases h with rfl | ⟨n, rfl, rfl⟩
  · simp [m_parts_of, DL.run, e_parts_of]
  · simp [m_parts_of, DL.run, e_parts_of]
end Lw
namespace Lw
open DL L2
@[simp] theorem co_ss (m mr : List D → Fo) (f : D → D → Option D) (p q : Rat) : fCmpO 24 m mr f (shQ p) (shQ q) = scR (m [shQ p, shQ q]) := by
  show (if (24 : Nat) = 24 ∧ (24 : Nat) = 24 then scR (m [shQ p, shQ q]) else none) = _
  exact if_pos ⟨rfl, rfl⟩
@[simp] theorem co_si (m mr : List D → Fo) (f : D → D → Option D) (p : Rat) (n : Int) : fCmpO 24 m mr f (shQ p) (.int n) = scR (m [shQ p, .int n]) := by
  show (if (24 : Nat) = 24 then scR (m [shQ p, .int n]) else none) = _
  exact if_pos rfl
@[simp] theorem co_is (m mr : List D → Fo) (f : D → D → Option D) (p : Rat) (n : Int) : fCmpO 24 m mr f (.int n) (shQ p) = scR (mr [shQ p, .int n]) := by
  show (if (24 : Nat) = 24 then scR (mr [shQ p, .int n]) else none) = _
  exact if_pos rfl
@[simp] theorem co_ii (m mr : List D → Fo) (f : D → D → Option D) (i n : Int) : fCmpO 24 m mr f (.int n) (.int i) = f (.int n) (.int i) := Eq.trans rfl rfl
@[simp] theorem ne_ss (m mr : List D → Fo) (f : D → D → Option D) (p q : Rat) : fNeO 24 m mr f (shQ p) (shQ q) = fNegB (scR (m [shQ p, shQ q])) := by
  show (if (24 : Nat) = 24 ∧ (24 : Nat) = 24 then fNegB (scR (m [shQ p, shQ q])) else none) = _
  exact if_pos ⟨rfl, rfl⟩
@[simp] theorem ne_si (m mr : List D → Fo) (f : D → D → Option D) (p : Rat) (n : Int) : fNeO 24 m mr f (shQ p) (.int n) = fNegB (scR (m [shQ p, .int n])) := by
  show (if (24 : Nat) = 24 then fNegB (scR (m [shQ p, .int n])) else none) = _
  exact if_pos rfl
@[simp] theorem ne_is (m mr : List D → Fo) (f : D → D → Option D) (p : Rat) (n : Int) : fNeO 24 m mr f (.int n) (shQ p) = fNegB (scR (mr [shQ p, .int n])) := by
  show (if (24 : Nat) = 24 then fNegB (scR (mr [shQ p, .int n])) else none) = _
  exact if_pos rfl
@[simp] theorem sc_bl (b : Bool) : scR (.ret (.bl b) none) = some (.bl b) := Eq.trans rfl rfl
theorem p_shlt (p : Rat) {d : D} {q : Rat} (h : Opd d q) (hp : Bq 3000 p) (hq : Bq 3000 q) : m_Share___lt__ [shQ p, d] = .ret (.bl (decide (p < q))) none := by
  have e1 := p_isnum h
  have e2 := p_parts h
  have c1 : cMul p.num q.den = true := cMul_B hp.1 hq.2
  have c2 : cMul q.num p.den = true := cMul_B hq.1 hp.2
  have ed : decide (p < q) = decide (p.num * q.den < q.num * p.den) := decide_eq_decide.mpr (Rat.lt_iff p q)
  rw [ed]
  simp [m_Share___lt__, DL.run, e_Share___lt__, e1, e2, c1, c2]
theorem p_shle (p : Rat) {d : D} {q : Rat} (h : Opd d q) (hp : Bq 3000 p) (hq : Bq 3000 q) : m_Share___le__ [shQ p, d] = .ret (.bl (decide (p ≤ q))) none := by
  have e1 := p_isnum h
  have e2 := p_parts h
  have c1 : cMul p.num q.den = true := cMul_B hp.1 hq.2
  have c2 : cMul q.num p.den = true := cMul_B hq.1 hp.2
  have ed : decide (p ≤ q) = decide (p.num * q.den ≤ q.num * p.den) := decide_eq_decide.mpr (Rat.le_iff p q)
  rw [ed]
  simp [m_Share___le__, DL.run, e_Share___le__, e1, e2, c1, c2]
theorem p_shgt (p : Rat) {d : D} {q : Rat} (h : Opd d q) (hp : Bq 3000 p) (hq : Bq 3000 q) : m_Share___gt__ [shQ p, d] = .ret (.bl (decide (q < p))) none := by
  have e1 := p_isnum h
  have e2 := p_parts h
  have c1 : cMul p.num q.den = true := cMul_B hp.1 hq.2
  have c2 : cMul q.num p.den = true := cMul_B hq.1 hp.2
  have ed : decide (q < p) = decide (q.num * p.den < p.num * q.den) := decide_eq_decide.mpr (Rat.lt_iff q p)
  rw [ed]
  simp [m_Share___gt__, DL.run, e_Share___gt__, e1, e2, c1, c2]
theorem p_shge (p : Rat) {d : D} {q : Rat} (h : Opd d q) (hp : Bq 3000 p) (hq : Bq 3000 q) : m_Share___ge__ [shQ p, d] = .ret (.bl (decide (q ≤ p))) none := by
  have e1 := p_isnum h
  have e2 := p_parts h
  have c1 : cMul p.num q.den = true := cMul_B hp.1 hq.2
  have c2 : cMul q.num p.den = true := cMul_B hq.1 hp.2
  have ed : decide (q ≤ p) = decide (q.num * p.den ≤ p.num * q.den) := decide_eq_decide.mpr (Rat.le_iff q p)
  rw [ed]
  simp [m_Share___ge__, DL.run, e_Share___ge__, e1, e2, c1, c2]
theorem p_sheq (p : Rat) {d : D} {q : Rat} (h : Opd d q) : m_Share___eq__ [shQ p, d] = .ret (.bl (decide (p = q))) none := by
  have e1 := p_isnum h
  have e2 := p_parts h
  by_cases h1 : p.num = q.num
  · by_cases h2 : p.den = q.den
    · have : p = q := Rat.ext h1 h2
      subst this
      simp [m_Share___eq__, DL.run, e_Share___eq__, e1, e2]
    · have h3 : ¬ p = q := fun z => h2 (by rw [z])
      have h4 : ¬ (p.den : Int) = q.den := by omega
      simp [m_Share___eq__, DL.run, e_Share___eq__, e1, e2, h1, h2, h3, h4]
  · have h3 : ¬ p = q := fun z => h1 (by rw [z])
    simp [m_Share___eq__, DL.run, e_Share___eq__, e1, e2, h1, h3]
end Lw
namespace Lw
open DL L2
def numS (i : Int) : PySem.Str := PySem.Str.ofString (toString i)
theorem ok_all {s : PySem.Str} (h : ∀ c ∈ s.cps.toList, c < 0x110000) : PySem.PyData.strOk s = true := by
  show s.cps.all (fun c => decide (c < 0x110000)) = true
  rw [← Array.all_toList]
  exact List.all_eq_true.mpr fun c hc => decide_eq_true (h c hc)
theorem lt_numS (i : Int) : ∀ c ∈ (numS i).cps.toList, c < 0x110000 := fun c hc => by
  refine Decidable.byContradiction fun h => ?_
  exact PyProof.Rows.int_text_free' c ⟨by omega, .inr (by omega)⟩ i hc
theorem ok_numS (i : Int) : PySem.PyData.strOk (numS i) = true := ok_all (lt_numS i)
theorem sh_strT {w : PySem.Str} (h : PySem.PyData.strOk w = true) : PySem.SeqAt.shaped (toPy (.str w)) = true := by
  show PySem.SeqAt.shaped (.str w) = true
  simp [PySem.SeqAt.shaped, PySem.PyData.canLay0, h, PySem.PyData.depth]
theorem ne_strT {a : PySem.Str} (ha : PySem.PyData.strOk a = true) : fNe (.str a) (.str a) = some (.bl false) := fNe_self _ (sh_strT ha)
theorem cps_app (a b : PySem.Str) : (a ++ b).cps.toList = a.cps.toList ++ b.cps.toList := by
  show (a.cps ++ b.cps).toList = _
  simp
theorem ok_app {a b : PySem.Str} (ha : ∀ c ∈ a.cps.toList, c < 0x110000) (hb : ∀ c ∈ b.cps.toList, c < 0x110000) : ∀ c ∈ (a ++ b).cps.toList, c < 0x110000 := fun c hc => by
  rw [cps_app] at hc
  rcases List.mem_append.mp hc with h | h
  · exact ha c h
  · exact hb c h
theorem len_app (a b : PySem.Str) : (a ++ b).length = a.length + b.length := by
  show (a.cps ++ b.cps).size = a.cps.size + b.cps.size
  simp
theorem emp_app (a : PySem.Str) : PySem.Str.empty ++ a = a := by
  cases a with
  | mk cs =>
    show (⟨#[] ++ cs⟩ : PySem.Str) = ⟨cs⟩
    simp
theorem log_of {n : Nat} (h : n < 2 ^ 1900) : n.log2 < 1920 := by
  by_cases h0 : n = 0
  · subst h0; decide +kernel
  · exact Nat.lt_of_lt_of_le ((Nat.log2_lt h0).mpr h) (by decide)
theorem len_numS {i : Int} (h : i.natAbs < 2 ^ 1900) : (numS i).length ≤ 1921 := PyProof.Rows.int_text_len_1921 (log_of h)
theorem str_int {i : Int} (h : i.natAbs < 2 ^ 1900) : fStrI [.int i] = some (.str (numS i)) := by
  show (if i.natAbs.log2 < 1920 then some (D.str (toString i)) else none) = _
  rw [if_pos (log_of h)]
  rfl
theorem fmt_intT {i : Int} (h : i.natAbs < 2 ^ 1900) : fmtD (.int i) = some (.str (numS i)) := by
  show (if i.natAbs.log2 < 1920 then some (D.str (toString i)) else none) = _
  rw [if_pos (log_of h)]
  rfl
def slS : PySem.Str := "/"
def strQ (q : Rat) : PySem.Str := if q.den = 1 then numS q.num else (numS q.num ++ slS) ++ numS q.den
theorem ok_slash : ∀ c ∈ slS.cps.toList, c < 0x110000 := by decide +kernel
theorem ok_strQ (q : Rat) : PySem.PyData.strOk (strQ q) = true := by
  unfold strQ
  split
  · exact ok_numS _
  · exact ok_all (ok_app (ok_app (lt_numS _) ok_slash) (lt_numS _))
theorem p_shstr (q : Rat) (h : Bq 1900 q) : m_Share___str__ [shQ q] = .ret (.str (strQ q)) none := by
  have f1 := fmt_intT h.1
  have f2 := fmt_intT (i := (q.den : Int)) h.2
  have s1 := str_int h.1
  have l1 := len_numS h.1
  have l2 := len_numS (i := (q.den : Int)) h.2
  have ls : slS.length = 1 := by decide +kernel
  have k1 : (PySem.Str.empty ++ numS q.num).length ≤ 16777216 := by rw [emp_app]; omega
  have k2 : (PySem.Str.empty ++ numS q.num ++ slS).length ≤ 16777216 := by rw [emp_app, len_app]; omega
  have k3 : (PySem.Str.empty ++ numS q.num ++ slS ++ numS q.den).length ≤ 16777216 := by rw [emp_app, len_app, len_app]; omega
  have e0 := emp_app (numS q.num)
  have et := sh_top q
  have eb := sh_bot q
  have hs : ("/" : PySem.Str) = slS := rfl
  unfold strQ
  generalize shQ q = P at *
  generalize numS q.num = x at *
  generalize numS (q.den : Int) = y at *
  by_cases h1 : q.den = 1
  · have h2 : (q.den : Int) = 1 := by omega
    simp [m_Share___str__, DL.run, e_Share___str__, et, eb, h1, s1]
  · have h2 : ¬ (q.den : Int) = 1 := by omega
    rw [if_neg h1]
    have v : vFs [vFmt (vFld [24] ("top" : PySem.Str) (.s 0)), vC (.str ("/" : PySem.Str)), vFmt (vFld [24] ("bottom" : PySem.Str) (.s 0))] PySem.Str.empty [.va P] = .ok (.str (x ++ slS ++ y)) [.va P] := by
      rw [hs]
      simp [et, eb, f1, f2, k1, k2, k3]
      rw [e0]
    simp [m_Share___str__, DL.run, e_Share___str__, eb, h1, h2, v, -pu7]
theorem str_own (q : Rat) (h : Bq 1900 q) : fStrO 24 m_Share___str__ [shQ q] = some (.str (strQ q)) := by
  rw [strO_own rfl, p_shstr q h, strOk2_s]
theorem isnum_odd {d : D} (hp : Pl d = true) (hi : isI d = false) : m_is_number [d] = .ret (.bl false) none := by
  have e0 := p_integer d hp
  rw [hi] at e0
  cases d <;> first | (cases hp; done) | (cases hi; done) | simp [m_is_number, DL.run, e_is_number, e0]
theorem cond_odd (q : Rat) {d : D} (hp : Pl d = true) (hi : isI d = false) : cond_Share___eq__ [shQ q, d] = true := by
  have e := isnum_odd hp hi
  generalize shQ q = P at *
  have h : ct_Share___eq__ [.va P, .va d, .no, .no] = .ok true [.va P, .va d, .no, .no] := by simp [ct_Share___eq__, e]
  show (match ct_Share___eq__ [.va P, .va d, .no, .no] with | .ok true _ => true | _ => false) = true
  rw [h]
theorem lt_div {a b c d : Int} (hb : 0 < b) (hd : 0 < d) : (Rat.divInt a b < Rat.divInt c d) ↔ a * d < c * b := by
  have cross : ∀ {x y : Int}, y ≠ 0 → (Rat.divInt x y).num * y = x * (Rat.divInt x y).den := fun {x y} hy => by
    have h := divInt_q (Rat.divInt x y)
    exact (Rat.divInt_eq_divInt_iff (by have := (Rat.divInt x y).den_nz; omega) hy).mp h
  have k1 := cross (x := a) (y := b) (by omega)
  have k2 := cross (x := c) (y := d) (by omega)
  have p1 : 0 < ((Rat.divInt a b).den : Int) := by have := (Rat.divInt a b).den_nz; omega
  have p2 : 0 < ((Rat.divInt c d).den : Int) := by have := (Rat.divInt c d).den_nz; omega
  rw [Rat.lt_iff]
  generalize (Rat.divInt a b).num = P at *
  generalize ((Rat.divInt a b).den : Int) = B at *
  generalize (Rat.divInt c d).num = Q at *
  generalize ((Rat.divInt c d).den : Int) = E at *
  have e1 : (a * d) * (B * E) = (P * E) * (b * d) := by grind
  have e2 : (c * b) * (B * E) = (Q * B) * (b * d) := by grind
  have q1 : 0 < B * E := Int.mul_pos p1 p2
  have q2 : 0 < b * d := Int.mul_pos hb hd
  constructor
  · intro h
    have h3 := Int.mul_lt_mul_of_pos_right h q2
    rw [← e1, ← e2] at h3
    exact Int.lt_of_mul_lt_mul_right h3 (Int.le_of_lt q1)
  · intro h
    have h3 := Int.mul_lt_mul_of_pos_right h q1
    rw [e1, e2] at h3
    exact Int.lt_of_mul_lt_mul_right h3 (Int.le_of_lt q2)
theorem eq_div {a b c d : Int} (hb : b ≠ 0) (hd : d ≠ 0) : (Rat.divInt a b = Rat.divInt c d) ↔ a * d = c * b := Rat.divInt_eq_divInt_iff hb hd
theorem le_or (p q : Rat) : decide (p ≤ q) = (decide (p < q) || decide (p = q)) := by
  by_cases h1 : p < q
  · have h2 : p ≤ q := Rat.le_of_lt h1
    simp [h1, h2]
  · have h2 : q ≤ p := Rat.not_lt.mp h1
    by_cases h3 : p = q
    · subst h3; simp [h1, Rat.le_refl]
    · have h4 : ¬ p ≤ q := fun z => h3 (Rat.le_antisymm z h2)
      simp [h1, h3, h4]
theorem ge_not (p q : Rat) : decide (q ≤ p) = !decide (p < q) := by
  by_cases h1 : p < q
  · have h2 : ¬ q ≤ p := fun z => absurd h1 (Rat.not_lt.mpr z)
    simp [h1, h2]
  · simp [h1, Rat.not_lt.mp h1]
theorem gt_not (p q : Rat) : decide (q < p) = (!decide (p < q) && !decide (p = q)) := by
  have h := le_or p q
  have h2 := ge_not q p
  rw [h] at h2
  cases hx : decide (q < p) <;> cases hy : decide (p < q) <;> cases hz : decide (p = q) <;> simp_all
theorem eqB (b c : Bool) : fEq (.bl b) (.bl c) = some (.bl (b == c)) := by cases b <;> cases c <;> rfl
theorem neB (b c : Bool) : fNe (.bl b) (.bl c) = some (.bl (b != c)) := by cases b <;> cases c <;> rfl
theorem cl_loop (x y l e : D) : ∀ bs : List Bool, vLoop (tName 4) lb__law_compares_1 (bs.map D.bl) [.va x, .va y, .va l, .va e, .no] = .nx [.va x, .va y, .va l, .va e, .no]
  | [] => rfl
  | b :: r => by
    rw [List.map_cons, vLoop_nx (de1 := [.va x, .va y, .va l, .va e, .va (.bl b)]) (de2 := [.va x, .va y, .va l, .va e, .no]) rfl (by simp [lb__law_compares_1])]
    exact cl_loop x y l e r
theorem cmp_core (x y : D) (lt eq : Bool) (E : fCmpO 24 m_Share___eq__ m_Share___eq__ fEq x y = some (.bl eq)) (N : fNeO 24 m_Share___eq__ m_Share___eq__ fNe x y = some (.bl (!eq))) (L : fCmpO 24 m_Share___lt__ m_Share___gt__ fLt x y = some (.bl lt))
    (LE : fCmpO 24 m_Share___le__ m_Share___ge__ fLe x y = some (.bl (lt || eq))) (G : fCmpO 24 m_Share___gt__ m_Share___lt__ fGt x y = some (.bl (!lt && !eq))) (GE : fCmpO 24 m_Share___ge__ m_Share___le__ fGe x y = some (.bl (!lt))) :
    m__law_compares [x, y, .bl lt, .bl eq] = .ret (.bl true) none := by
  have lp := cl_loop x y (.bl lt) (.bl eq) [eq, !eq, lt, lt || eq, !lt && !eq, !lt]
  have lp : vLoop (tName 4) lb__law_compares_1 [.bl eq, .bl (!eq), .bl lt, .bl (lt || eq), .bl (!lt && !eq), .bl (!lt)] [.va x, .va y, .va (.bl lt), .va (.bl eq), .no] = .nx [.va x, .va y, .va (.bl lt), .va (.bl eq), .no] := lp
  have e1 := eqB
  have n1 := neB
  cases lt <;> cases eq <;> simp at lp N LE G GE <;> simp [m__law_compares, DL.run, e__law_compares, E, N, L, LE, G, GE, lp, e1, n1]
theorem cmp_sd (p : Rat) {d : D} {q : Rat} (h : Opd d q) (hp : Bq 3000 p) (hq : Bq 3000 q) : m__law_compares [shQ p, d, .bl (decide (p < q)), .bl (decide (p = q))] = .ret (.bl true) none := by
  have e1 := p_sheq p h
  have e2 := p_shlt p h hp hq
  have e3 := p_shle p h hp hq
  have e4 := p_shgt p h hp hq
  have e5 := p_shge p h hp hq
  have co : ∀ (m mr : List D → Fo) (f : D → D → Option D), fCmpO 24 m mr f (shQ p) d = scR (m [shQ p, d]) := fun m mr f => by
    rcases h with rfl | ⟨n, rfl, rfl⟩
    · exact co_ss m mr f p q
    · exact co_si m mr f p n
  have cn : ∀ (m mr : List D → Fo) (f : D → D → Option D), fNeO 24 m mr f (shQ p) d = fNegB (scR (m [shQ p, d])) := fun m mr f => by
    rcases h with rfl | ⟨n, rfl, rfl⟩
    · exact ne_ss m mr f p q
    · exact ne_si m mr f p n
  refine cmp_core _ _ _ _ ?_ ?_ ?_ ?_ ?_ ?_
  · rw [co, e1, sc_bl]
  · rw [cn, e1, sc_bl]; rfl
  · rw [co, e2, sc_bl]
  · rw [co, e3, sc_bl, le_or]
  · rw [co, e4, sc_bl, gt_not]
  · rw [co, e5, sc_bl, ge_not]
theorem cmp_is (p : Rat) (n : Int) (hp : Bq 3000 p) (hq : Bq 3000 (n : Rat)) : m__law_compares [.int n, shQ p, .bl (decide ((n : Rat) < p)), .bl (decide (p = (n : Rat)))] = .ret (.bl true) none := by
  have h := opd_i n
  have e1 := p_sheq p h
  have e2 := p_shlt p h hp hq
  have e3 := p_shle p h hp hq
  have e4 := p_shgt p h hp hq
  have e5 := p_shge p h hp hq
  have c := eq_comm (a := p) (b := (n : Rat))
  have c2 : decide (p = (n : Rat)) = decide ((n : Rat) = p) := decide_eq_decide.mpr c
  refine cmp_core _ _ _ _ ?_ ?_ ?_ ?_ ?_ ?_
  · rw [co_is, e1, sc_bl]
  · rw [ne_is, e1, sc_bl]; rfl
  · rw [co_is, e4, sc_bl]
  · rw [co_is, e5, sc_bl, le_or, c2]
  · rw [co_is, e2, sc_bl, gt_not, c2]
  · rw [co_is, e3, sc_bl, ge_not]
end Lw
namespace Lw
open DL L2
def oddO : List D := [.non, .str "1", .str "0", .bl true, .bl false, .lst [], .tup [.int 1], .dk [], .str "", .tup [.int 0, .int 1]]
theorem oddO_ok {d : D} (h : d ∈ oddO) : Pl d = true ∧ isI d = false ∧ oddD d = true := by
  have key : (oddO.all fun d => Pl d && !isI d && oddD d) = true := by decide +kernel
  have := List.all_eq_true.mp key d h
  simp only [Bool.and_eq_true, Bool.not_eq_true'] at this
  exact ⟨this.1.1, this.1.2, this.2⟩
abbrev EqO : D → D → Option D := fEqNI 24 cond_Share___eq__ (fCmpO 24 m_Share___eq__ m_Share___eq__ fEq)
abbrev NeO : D → D → Option D := fNeNI 24 cond_Share___eq__ (fNeO 24 m_Share___eq__ m_Share___eq__ fNe)
theorem odd_eq (q : Rat) {d : D} (hp : Pl d = true) (hi : isI d = false) (ho : oddD d = true) : EqO (shQ q) d = some (.bl false) ∧ EqO d (shQ q) = some (.bl false) ∧ NeO (shQ q) d = some (.bl true) :=
  ⟨eqNI_l rfl ho (cond_odd q hp hi), eqNI_r rfl ho (cond_odd q hp hi), neNI_l rfl ho (cond_odd q hp hi)⟩
theorem end_core (P Sn : D) (a b g ta tb n : Int) (s1 s2 s3 s4 res sn : PySem.Str) (a0 a1 a2 a3 a4 a7 a8 a10 a12 a13 a14 : Sl)
    (eg : m__law_gcd [.int a, .int b] = .ret (.int g) none) (ca : cDiv a g = true) (cb : cDiv b g = true) (ea : a / g = ta) (eb : b / g = tb)
    (f1 : fStrI [.int ta] = some (.str s1)) (f2 : fStrI [.int tb] = some (.str s2)) (f3 : fAdd (.str s1) (.str "/") = some (.str s3)) (f4 : fAdd (.str s3) (.str s2) = some (.str s4))
    (hr : res = if tb = 1 then s1 else s4) (r1 : fStrO 24 m_Share___str__ [P] = some (.str res)) (r2 : fNe (.str res) (.str res) = some (.bl false))
    (e9 : m_Share_init [.obj 24 [], .int n, .int 1] = .ret .non (some Sn)) (r3 : fStrO 24 m_Share___str__ [Sn] = some (.str sn)) (r4 : fStrI [.int n] = some (.str sn)) (r5 : fNe (.str sn) (.str sn) = some (.bl false)) :
    tl_law_19 [a0, a1, a2, a3, a4, .va (.int a), .va (.int b), a7, a8, .va (.int n), a10, .va P, a12, a13, a14, .no, .no] = .nx [a0, a1, a2, a3, a4, .va (.int a), .va (.int b), a7, a8, .va (.int n), a10, .va P, a12, a13, a14, .va (.int g), .va (.str res)] := by
  by_cases h : tb = 1
  · rw [if_pos h] at hr
    subst hr
    simp [tl_law_19, tl_law_20, tl_law_21, tl_law_22, eg, ca, cb, ea, eb, f1, h, r1, r2, e9, r3, r4, r5]
  · rw [if_neg h] at hr
    subst hr
    simp [tl_law_19, tl_law_20, tl_law_21, tl_law_22, eg, ca, cb, ea, eb, f1, f2, f3, f4, h, r1, r2, e9, r3, r4, r5]
theorem odd_core (P S1 S0 odd : D) (a0 a1 a2 a3 a5 a6 a7 a8 a9 a10 a12 a13 a14 : Sl) (o1 : EqO P odd = some (.bl false)) (o2 : EqO odd P = some (.bl false)) (o3 : NeO P odd = some (.bl true))
    (e1 : m_Share_init [.obj 24 [], .int 1, .int 1] = .ret .non (some S1)) (e0 : m_Share_init [.obj 24 [], .int 0, .int 1] = .ret .non (some S0)) (o4 : EqO S1 (.bl true) = some (.bl false)) (o5 : EqO S0 (.bl false) = some (.bl false)) :
    tl_law_18 [a0, a1, a2, a3, .va odd, a5, a6, a7, a8, a9, a10, .va P, a12, a13, a14, .no, .no] = tl_law_19 [a0, a1, a2, a3, .va odd, a5, a6, a7, a8, a9, a10, .va P, a12, a13, a14, .no, .no] := by
  simp [tl_law_18, o1, o2, o3, e1, e0, o4, o5]
theorem cmp3_core (P Q Sn : D) (a b n M L R : Int) (a0 a1 a2 a3 a4 a7 a8 a10 : Sl) (cm : cMul n b = true) (hM : n * b = M)
    (k1 : m__law_compares [P, Q, .bl (decide (L < R)), .bl (decide (L = R))] = .ret (.bl true) none) (k2 : m__law_compares [P, .int n, .bl (decide (a < M)), .bl (decide (a = M))] = .ret (.bl true) none)
    (k3 : m__law_compares [.int n, P, .bl (decide (M < a)), .bl (decide (a = M))] = .ret (.bl true) none) (e9 : m_Share_init [.obj 24 [], .int n, .int 1] = .ret .non (some Sn)) (k4 : m__law_compares [Sn, .int n, .bl false, .bl true] = .ret (.bl true) none) :
    tl_law_15 [a0, a1, a2, a3, a4, .va (.int a), .va (.int b), a7, a8, .va (.int n), a10, .va P, .va Q, .va (.int L), .va (.int R), .no, .no] = tl_law_18 [a0, a1, a2, a3, a4, .va (.int a), .va (.int b), a7, a8, .va (.int n), a10, .va P, .va Q, .va (.int L), .va (.int R), .no, .no] := by
  simp [tl_law_15, tl_law_16, tl_law_17, cm, hM, k1, k2, k3, e9, k4]
theorem sides (P Q : D) (a b c d L R : Int) (a0 a1 a2 a3 a4 a9 a10 : Sl) (eP : m_Share_init [.obj 24 [], .int a, .int b] = .ret .non (some P)) (eQ : m_Share_init [.obj 24 [], .int c, .int d] = .ret .non (some Q))
    (c1 : cMul a (if d < 0 then -d else d) = true) (c2 : cMul b c = true) (hL : a * (if d < 0 then -d else d) = L) (hR : (if d < 0 then -(b * c) else b * c) = R) :
    tl_law_10 [a0, a1, a2, a3, a4, .va (.int a), .va (.int b), .va (.int c), .va (.int d), a9, a10, .no, .no, .no, .no, .no, .no] = tl_law_15 [a0, a1, a2, a3, a4, .va (.int a), .va (.int b), .va (.int c), .va (.int d), a9, a10, .va P, .va Q, .va (.int L), .va (.int R), .no, .no] := by
  by_cases h : d < 0
  · rw [if_pos h] at c1 hL hR
    simp [tl_law_10, tl_law_11, tl_law_12, tl_law_13, tl_law_14, eP, eQ, h, c1, c2, hL, hR]
  · rw [if_neg h] at c1 hL hR
    simp [tl_law_10, tl_law_11, tl_law_12, tl_law_13, tl_law_14, eP, eQ, h, c1, c2, hL, hR]
theorem absd {a b c d : Int} (hd : d ≠ 0) : Rat.divInt c d = Rat.divInt (if d < 0 then -c else c) (if d < 0 then -d else d) := by
  by_cases h : d < 0
  · rw [if_pos h, if_pos h, Rat.divInt_neg', Int.neg_neg]
  · rw [if_neg h, if_neg h]
theorem t_10 (a b c d n : Int) (ha : a.natAbs < 2 ^ 175) (hb : 0 < b) (hb2 : b.natAbs < 2 ^ 175) (hc : c.natAbs < 2 ^ 180) (hd : d ≠ 0) (hd2 : d.natAbs < 2 ^ 180) (hn : n.natAbs < 2 ^ 175) (odd : D) (ho : odd ∈ oddO) (a0 a1 a2 a3 : Sl) :
    ∃ s11 s12 s13 s14 s15 s16, tl_law_10 [a0, a1, a2, a3, .va odd, .va (.int a), .va (.int b), .va (.int c), .va (.int d), .va (.int n), .no, .no, .no, .no, .no, .no, .no] = .nx [a0, a1, a2, a3, .va odd, .va (.int a), .va (.int b), .va (.int c), .va (.int d), .va (.int n), .no, s11, s12, s13, s14, s15, s16] := by
  obtain ⟨p1, p2, p3⟩ := oddO_ok ho
  have b0 : b ≠ 0 := by omega
  have eP := p_shareQ a b b0 (pow_up hb2 (by decide))
  have eQ := p_shareQ c d hd (pow_up hd2 (by decide))
  have en := p_shareQ n 1 (by decide) (by decide)
  have e1 := p_shareQ 1 1 (by decide) (by decide)
  have e0 := p_shareQ 0 1 (by decide) (by decide)
  have BP : Bq 1900 (Rat.divInt a b) := bq_div b0 (pow_up ha (by decide)) (pow_up hb2 (by decide))
  have BQ : Bq 1900 (Rat.divInt c d) := bq_div hd (pow_up hc (by decide)) (pow_up hd2 (by decide))
  have vn : Rat.divInt n 1 = (n : Rat) := (Rat.mk_eq_divInt (num := n) (den := 1)).symm
  have Bn : Bq 1900 (n : Rat) := bq_int (pow_up hn (by decide)) (by decide)
  rw [vn] at en
  have hdd : 0 < (if d < 0 then -d else d) := by split <;> omega
  have dd2 : (if d < 0 then -d else d).natAbs < 2 ^ 180 := by split <;> omega
  have c1 : cMul a (if d < 0 then -d else d) = true := cMul_B (pow_up ha (by decide)) (pow_up dd2 (by decide))
  have c2 : cMul b c = true := cMul_B (pow_up hb2 (by decide)) (pow_up hc (by decide))
  have cm : cMul n b = true := cMul_B (pow_up hn (by decide)) (pow_up hb2 (by decide))
  obtain ⟨L, hL⟩ : ∃ L, a * (if d < 0 then -d else d) = L := ⟨_, rfl⟩
  obtain ⟨R, hR⟩ : ∃ R, (if d < 0 then -(b * c) else b * c) = R := ⟨_, rfl⟩
  obtain ⟨M, hM⟩ : ∃ M, n * b = M := ⟨_, rfl⟩
  have hR2 : (if d < 0 then -c else c) * b = R := by
    rw [← hR]
    split <;> grind
  have q1 : decide (Rat.divInt a b < Rat.divInt c d) = decide (L < R) := by
    rw [absd (a := 0) (b := 0) (c := c) hd, ← hL, ← hR2]
    exact decide_eq_decide.mpr (lt_div hb hdd)
  have q2 : decide (Rat.divInt a b = Rat.divInt c d) = decide (L = R) := by
    rw [absd (a := 0) (b := 0) (c := c) hd, ← hL, ← hR2]
    exact decide_eq_decide.mpr (eq_div b0 (by omega))
  have q3 : decide (Rat.divInt a b < (n : Rat)) = decide (a < M) := by
    rw [← vn, ← hM]
    have := lt_div (a := a) (b := b) (c := n) (d := 1) hb (by decide)
    rw [Int.mul_one] at this
    exact decide_eq_decide.mpr this
  have q4 : decide (Rat.divInt a b = (n : Rat)) = decide (a = M) := by
    rw [← vn, ← hM]
    have := eq_div (a := a) (b := b) (c := n) (d := 1) b0 (by decide)
    rw [Int.mul_one] at this
    exact decide_eq_decide.mpr this
  have q5 : decide ((n : Rat) < Rat.divInt a b) = decide (M < a) := by
    rw [← vn, ← hM]
    have := lt_div (a := n) (b := 1) (c := a) (d := b) (by decide) hb
    rw [Int.mul_one] at this
    exact decide_eq_decide.mpr this
  have k1 := cmp_sd (Rat.divInt a b) (opd_s (Rat.divInt c d)) (BP.up (by decide)) (BQ.up (by decide))
  rw [q1, q2] at k1
  have k2 := cmp_sd (Rat.divInt a b) (opd_i n) (BP.up (by decide)) (Bn.up (by decide))
  rw [q3, q4] at k2
  have k3 := cmp_is (Rat.divInt a b) n (BP.up (by decide)) (Bn.up (by decide))
  rw [q5, q4] at k3
  have k4 := cmp_sd (n : Rat) (opd_i n) (Bn.up (by decide)) (Bn.up (by decide))
  have z1 : decide ((n : Rat) < (n : Rat)) = false := decide_eq_false Rat.lt_irrefl
  have z2 : decide ((n : Rat) = (n : Rat)) = true := decide_eq_true rfl
  rw [z1, z2] at k4
  obtain ⟨o1, o2, o3⟩ := odd_eq (Rat.divInt a b) p1 p2 p3
  obtain ⟨o4, _, _⟩ := odd_eq (Rat.divInt 1 1) (d := .bl true) rfl rfl rfl
  obtain ⟨o5, _, _⟩ := odd_eq (Rat.divInt 0 1) (d := .bl false) rfl rfl rfl
  rw [sides _ _ a b c d L R a0 a1 a2 a3 (.va odd) (.va (.int n)) .no eP eQ c1 c2 hL hR]
  rw [cmp3_core _ _ _ a b n M L R a0 a1 a2 a3 (.va odd) (.va (.int c)) (.va (.int d)) .no cm hM k1 k2 k3 en k4]
  rw [odd_core _ _ _ odd a0 a1 a2 a3 (.va (.int a)) (.va (.int b)) (.va (.int c)) (.va (.int d)) (.va (.int n)) .no (.va (shQ (Rat.divInt c d))) (.va (.int L)) (.va (.int R)) o1 o2 o3 e1 e0 o4 o5]
  obtain ⟨g, hg, hg0, hgl, g1, g2, _, _⟩ := divInt_parts a b b0
  rw [if_neg (by omega)] at hg
  have eg := h_gcdB a b (pow_up hb2 (by decide))
  rw [← hg] at eg
  have gp : 0 < g := by omega
  have g8 : g.natAbs < 2 ^ 8000 := Nat.lt_of_le_of_lt hgl (pow_up hb2 (by decide))
  have g2' : g.natAbs < 2 ^ 200 := Nat.lt_of_le_of_lt hgl (pow_up hb2 (by decide))
  have ca : ∀ i, cDiv i g = true := fun i => cDiv_ok gp g2'
  have ea : a / g = (Rat.divInt a b).num := by rw [← g1, Int.fdiv_eq_ediv_of_nonneg _ (by omega)]
  have eb : b / g = ((Rat.divInt a b).den : Int) := by rw [← g2, Int.fdiv_eq_ediv_of_nonneg _ (by omega)]
  generalize Rat.divInt a b = p at *
  have f1 := str_int BP.1
  have f2 := str_int (i := (p.den : Int)) BP.2
  have l1 := len_numS BP.1
  have l2 := len_numS (i := (p.den : Int)) BP.2
  have ls : slS.length = 1 := by decide +kernel
  have f3 : fAdd (.str (numS p.num)) (.str slS) = some (.str (numS p.num ++ slS)) := by
    show (if (numS p.num).length + slS.length ≤ 16777216 then some (D.str (numS p.num ++ slS)) else none) = _
    rw [if_pos (by omega)]
  have f4 : fAdd (.str (numS p.num ++ slS)) (.str (numS p.den)) = some (.str (numS p.num ++ slS ++ numS p.den)) := by
    show (if (numS p.num ++ slS).length + (numS (p.den : Int)).length ≤ 16777216 then some (D.str (numS p.num ++ slS ++ numS p.den)) else none) = _
    rw [if_pos (by rw [len_app]; omega)]
  have hr : strQ p = if (p.den : Int) = 1 then numS p.num else numS p.num ++ slS ++ numS p.den := by
    unfold strQ
    by_cases h : p.den = 1
    · rw [if_pos h, if_pos (by omega)]
    · rw [if_neg h, if_neg (by omega)]
  have sn : strQ (n : Rat) = numS n := rfl
  have r3 := str_own (n : Rat) Bn
  rw [sn] at r3
  exact ⟨_, _, _, _, _, _, end_core (shQ p) (shQ (n : Rat)) a b g p.num p.den n (numS p.num) (numS p.den) (numS p.num ++ slS) (numS p.num ++ slS ++ numS p.den) (strQ p) (numS n) a0 a1 a2 a3 (.va odd) (.va (.int c)) (.va (.int d)) .no _ _ _ eg (ca a) (ca b) ea eb f1 f2 f3 f4 hr (str_own p BP) (ne_strT (ok_strQ p)) en r3 (str_int (pow_up hn (by decide))) (ne_strT (ok_numS n))⟩
theorem t_turn (ns : List Int) (k : Nat) (hk : k < 100) : lb_law_1 [.va (.scr (ns.map .int)), .va (.int k), .no, .no, .no, .no, .no, .no, .no, .no, .no, .no, .no, .no, .no, .no, .no] = .nx [.va (.scr (ns.map .int)), .no, .no, .no, .no, .no, .no, .no, .no, .no, .no, .no, .no, .no, .no, .no, .no] := by
  obtain ⟨t0, x0, oo⟩ := h_start ns k k rfl (by omega)
  obtain ⟨r, t1, x1, kr, oa⟩ := h_draw (n := 700) t0 3 (oo.mono (by decide)) (by decide) (by decide)
  obtain ⟨r2, s0, x2, kr2, o0⟩ := h_draw (n := 600) t1 10 (oa.mono (by decide)) (by decide) (by decide)
  obtain ⟨a, s1, e1, k1, o1⟩ := h_number (n := 500) s0 (o0.mono (by decide))
  obtain ⟨y, s2, e2, k2, o2⟩ := h_number (n := 400) s1 (o1.mono (by decide))
  obtain ⟨c, s3, e3, k3, o3⟩ := h_number (n := 300) s2 (o2.mono (by decide))
  obtain ⟨w, s4, e4, k4, o4⟩ := h_number (n := 200) s3 (o3.mono (by decide))
  obtain ⟨n, s5, e5, k5, o5⟩ := h_number (n := 100) s4 (o4.mono (by decide))
  have p50 : cPow 10 50 = true := by decide
  obtain ⟨b, hb⟩ : ∃ b : Int, 1 + (if y < 0 then -y else y) = b := ⟨_, rfl⟩
  obtain ⟨d, hd⟩ : ∃ d : Int, 1 + (if w < 0 then -w else w) = d := ⟨_, rfl⟩
  have b1 : b = 1 + (y.natAbs : Int) := by rw [← hb]; split <;> omega
  have d1 : d = 1 + (w.natAbs : Int) := by rw [← hd]; split <;> omega
  have b2 : b.natAbs < 2 ^ 171 := by
    have : b.natAbs = 1 + y.natAbs := by omega
    rw [this, Nat.pow_succ]
    omega
  have d2 : d.natAbs < 2 ^ 171 := by
    have : d.natAbs = 1 + w.natAbs := by omega
    rw [this, Nat.pow_succ]
    omega
  have h5 : r2 < oddO.length := by have : oddO.length = 10 := rfl; omega
  obtain ⟨o, ho, hom⟩ : ∃ o, oddO[r2] = o ∧ o ∈ oddO := ⟨_, rfl, List.getElem_mem h5⟩
  have h6 := atI_some oddO r2 h5
  rw [ho] at h6
  unfold oddO at h6
  have up : ∀ {m : Nat}, m < 2 ^ 171 → m < 2 ^ 175 := fun h => pow_up h (by decide)
  have fin : ∀ (s2 s3 s4 s5 s6 s7 s8 s9 s11 s12 s13 s14 s15 s16 : Sl), dropO [1, 2, 3, 4, 5, 6, 7, 8, 9, 10, 11, 12, 13, 14, 15, 16] (.nx [.va (.scr (ns.map .int)), .va (.int k), s2, s3, s4, s5, s6, s7, s8, s9, .no, s11, s12, s13, s14, s15, s16]) = .nx [.va (.scr (ns.map .int)), .no, .no, .no, .no, .no, .no, .no, .no, .no, .no, .no, .no, .no, .no, .no, .no] := fun _ _ _ _ _ _ _ _ _ _ _ _ _ _ => rfl
  by_cases hr : r = 0
  · subst hr
    obtain ⟨f, s6, e6, k6, o6⟩ := h_draw (n := 50) s5 9 (o5.mono (by decide)) (by decide) (by decide)
    have q1 : cMul (-a) (1 + (f : Int)) = true := cMul_B (by rw [Int.natAbs_neg]; exact pow_up k1 (by decide)) (pow_up (show (1 + (f : Int)).natAbs < 2 ^ 5 by omega) (by decide))
    have q2 : cMul (-b) (1 + (f : Int)) = true := cMul_B (by rw [Int.natAbs_neg]; exact pow_up b2 (by decide)) (pow_up (show (1 + (f : Int)).natAbs < 2 ^ 5 by omega) (by decide))
    obtain ⟨c', hc'⟩ : ∃ c', -a * (1 + (f : Int)) = c' := ⟨_, rfl⟩
    obtain ⟨d', hd'⟩ : ∃ d', -b * (1 + (f : Int)) = d' := ⟨_, rfl⟩
    have bc : c'.natAbs < 2 ^ 180 := by
      rw [← hc', Int.natAbs_mul, Int.natAbs_neg]
      exact pow_up (mul_B (m := 170) (n := 5) k1 (by omega)) (by decide)
    have bd : d'.natAbs < 2 ^ 180 := by
      rw [← hd', Int.natAbs_mul, Int.natAbs_neg]
      exact pow_up (mul_B (m := 171) (n := 5) b2 (by omega)) (by decide)
    have nd : d' ≠ 0 := by
      rw [← hd']
      exact Int.mul_ne_zero (by omega) (by omega)
    have hc2 : -(a * (1 + (f : Int))) = c' := by rw [← hc', Int.neg_mul]
    have hd2' : -(b * (1 + (f : Int))) = d' := by rw [← hd', Int.neg_mul]
    obtain ⟨s11, s12, s13, s14, s15, s16, t⟩ := t_10 a b c' d' n (pow_up k1 (by decide)) (by omega) (up b2) bc nd bd (pow_up k5 (by decide)) o hom (.va (.scr (ns.map .int))) (.va (.int k)) (.ow (stD s6)) (.va (.int (0 : Nat)))
    refine Eq.trans ?_ (fin (.ow (stD s6)) (.va (.int (0 : Nat))) (.va o) (.va (.int a)) (.va (.int b)) (.va (.int c')) (.va (.int d')) (.va (.int n)) s11 s12 s13 s14 s15 s16)
    rw [← t]
    have x1 : m__law_draw [stD t0, .int 3] = .ret (.int 0) (some (stD t1)) := x1
    simp [lb_law_1, tl_law_2, tl_law_3, tl_law_4, tl_law_5, tl_law_6, tl_law_7, tl_law_8, tl_law_9, x0, x1, x2, h6, e1, e2, e3, e4, e5, e6, p50, hb, hd, q1, q2, hc', hd']
  · have hr' : ¬ (r : Int) = 0 := by omega
    obtain ⟨s11, s12, s13, s14, s15, s16, t⟩ := t_10 a b c d n (pow_up k1 (by decide)) (by omega) (up b2) (pow_up k3 (by decide)) (by omega) (pow_up d2 (by decide)) (pow_up k5 (by decide)) o hom (.va (.scr (ns.map .int))) (.va (.int k)) (.ow (stD s5)) (.va (.int r))
    refine Eq.trans ?_ (fin (.ow (stD s5)) (.va (.int r)) (.va o) (.va (.int a)) (.va (.int b)) (.va (.int c)) (.va (.int d)) (.va (.int n)) s11 s12 s13 s14 s15 s16)
    rw [← t]
    simp [lb_law_1, tl_law_2, tl_law_3, tl_law_4, tl_law_5, tl_law_6, tl_law_7, tl_law_8, tl_law_9, x0, x1, x2, h6, e1, e2, e3, e4, e5, p50, hb, hd, hr, hr']
theorem p_law (ns : List Int) (hl : ns.length ≤ 63) : ∃ q, m_law [.scr (ns.map .int)] = .ret (.bl true) q := by
  have hlen : (cutD (ns.map D.int) none (some 20)).length ≤ 63 := Nat.le_trans (cutD_len _ _ _) (by simpa using hl)
  obtain ⟨m, hm⟩ : ∃ m, (cutD (ns.map D.int) none (some 20)).length = m := ⟨_, rfl⟩
  rw [hm] at hlen
  obtain ⟨de, e, rfl⟩ := vLoop_range (g := tName 1) (tb := lb_law_1) (fun k de => de = [.va (.scr (ns.map .int)), .no, .no, .no, .no, .no, .no, .no, .no, .no, .no, .no, .no, .no, .no, .no, .no]) (m + 1) [.va (.scr (ns.map .int)), .no, .no, .no, .no, .no, .no, .no, .no, .no, .no, .no, .no, .no, .no, .no, .no] rfl fun k hk de hde => by
    subst hde
    exact ⟨_, _, rfl, .inl (t_turn ns k (by omega)), rfl⟩
  have er : ∀ de, rngA (.int (1 + (m : Int))) de = .ok (rangeD 0 (m + 1)) de := fun de => by
    have h := rngA_n (m + 1) (by omega) de
    have e : ((m + 1 : Nat) : Int) = 1 + (m : Int) := by omega
    rw [e] at h
    exact h
  exact ⟨none, by simp [m_law, DL.run, e_law, hm, er, e]⟩
end Lw
open PySem PySem.W PySem.Calls PyProof.Rows HeadRun
local macro_rules
  | `(tactic| o_headL ($_f:ident $_k $_a $_e)) => `(tactic| exact False.elim (by assumption))
set_option maxRecDepth 100000 in
set_option maxHeartbeats 0 in
theorem PySem.Challenge.cw_labelgaps_k04_share_order_and_text_holds : PySem.Challenge.rw_labelgaps_k04_share_order_and_text.Holds := by
  w_on; o_law
  refine' Lw.head_all (r := (OpenLaw.row PySem.Challenge.rw_labelgaps_k04_share_order_and_text)) (q := Lw.hq) (H := (kHook Lw.pre.heap_1 Lw.has Lw.has_eq)) (loose := Lw.hn) (N := 60000) (kwd := []) Lw.run1 Lw.run2 (Lw.obs_k Lw.run3) (by rfl) (by rfl) (by rfl) (by rfl) (by first | assumption | decide +kernel) (by decide +kernel) ⟨rfl, rfl, rfl, rfl, rfl, by decide +kernel⟩ ?hw ?hc
  (case hw => w_witness2)
  refine Lw.walk Lw.p_law rfl (by decide +kernel) (fun w h Y => PySem.W.kIn_of Y) ?F
  case F =>
    intro w mg fa h KX G hmg
    refine' Lw.all_mk KX G hmg ?ac_LabelError ?ac_BadShare ?ac_NoShare ?ac_Share ?a__law_start ?l__law_start ?c__law_start ?k__law_start ?a__law_draw ?l__law_draw ?c__law_draw ?k__law_draw ?a__law_number ?l__law_number ?c__law_number ?k__law_number ?a_is_integer ?l_is_integer ?c_is_integer ?k_is_integer ?a_Share_init ?i_Share_init ?l_Share_init ?c_Share_init ?k_Share_init ?lt_Share_init ?ld_Share_init ?a__law_gcd ?l__law_gcd ?c__law_gcd ?k__law_gcd ?a_parts_of ?l_parts_of ?c_parts_of ?k_parts_of ?a_is_number ?l_is_number ?c_is_number ?k_is_number ?a_Share___eq__ ?i_Share___eq__ ?l_Share___eq__ ?c_Share___eq__ ?k_Share___eq__ ?a_Share___lt__ ?i_Share___lt__ ?l_Share___lt__ ?c_Share___lt__ ?k_Share___lt__ ?a_Share___gt__ ?i_Share___gt__ ?l_Share___gt__ ?c_Share___gt__ ?k_Share___gt__ ?a_Share___le__ ?i_Share___le__ ?l_Share___le__ ?c_Share___le__ ?k_Share___le__ ?a_Share___ge__ ?i_Share___ge__ ?l_Share___ge__ ?c_Share___ge__ ?k_Share___ge__ ?a__law_compares ?l__law_compares ?c__law_compares ?k__law_compares ?a_Share___str__ ?i_Share___str__ ?l_Share___str__ ?c_Share___str__ ?k_Share___str__ ?a_law ?l_law ?c_law ?k_law ?xne_Share ?z_NotImplemented ?qm_Share ?nt_Share_NoneType ?nt_Share_bool ?nt_Share_str ?nt_Share_list ?nt_Share_tuple ?nt_Share_dict ?pg_Share ?hd_Share ?po_Share ?sa_Share ?mk_Share ?kk_Share ?z_len ?z_abs ?z_int ?z_isinstance ?z_bool ?zb_gcd ?na_Share_top ?na_Share_bottom ?z_range ?z_str ?ex_BadShare ?ty_BadShare ?xh_BadShare ?xl_BadShare ?xr_BadShare ?xs_BadShare ?xi_BadShare ?xt_BadShare ?xk_BadShare ?xe_BadShare ?xu_BadShare ?xv_BadShare ?xm_BadShare ?xp_BadShare ?xc_BadShare ?xd_BadShare ?xo_BadShare ?xq_BadShare ?xw_BadShare ?xz_BadShare ?z_super ?zt_any ?qa_Share ?qi_Share ?qt_Share ?qb_Share_bool ?qb_Share_int ?qb_Share_str ?qb_Share_tuple ?qb_Share_list ?qb_Share_dict ?qn ?qk
    case ac_LabelError|ac_BadShare|ac_NoShare|ac_Share|a__law_start|l__law_start|c__law_start|k__law_start|a__law_draw|l__law_draw|c__law_draw|k__law_draw|a__law_number|l__law_number|c__law_number|k__law_number|a_is_integer|l_is_integer|c_is_integer|k_is_integer|a_Share_init|i_Share_init|l_Share_init|c_Share_init|k_Share_init|lt_Share_init => k_is
    (case ld_Share_init => first | rfl | k_is)
    case a__law_gcd|l__law_gcd|c__law_gcd|k__law_gcd|a_parts_of|l_parts_of|c_parts_of|k_parts_of|a_is_number|l_is_number|c_is_number|k_is_number|a_Share___eq__|i_Share___eq__|l_Share___eq__|c_Share___eq__|k_Share___eq__|a_Share___lt__|i_Share___lt__|l_Share___lt__|c_Share___lt__|k_Share___lt__|a_Share___gt__|i_Share___gt__|l_Share___gt__|c_Share___gt__|k_Share___gt__|a_Share___le__|i_Share___le__|l_Share___le__|c_Share___le__|k_Share___le__|a_Share___ge__|i_Share___ge__|l_Share___ge__|c_Share___ge__|k_Share___ge__|a__law_compares|l__law_compares|c__law_compares|k__law_compares|a_Share___str__|i_Share___str__|l_Share___str__|c_Share___str__|k_Share___str__|a_law|l_law|c_law|k_law|xne_Share|z_NotImplemented|qm_Share|nt_Share_NoneType|nt_Share_bool|nt_Share_str|nt_Share_list|nt_Share_tuple|nt_Share_dict|pg_Share|hd_Share|po_Share|sa_Share|mk_Share|kk_Share|z_len|z_abs|z_int|z_isinstance|z_bool|zb_gcd|na_Share_top|na_Share_bottom|z_range|z_str|ex_BadShare|ty_BadShare|xh_BadShare|xl_BadShare => k_is
    (case xr_BadShare => first | rfl | k_is)
    case xs_BadShare|xi_BadShare|xt_BadShare|xk_BadShare => k_is
    (case xe_BadShare => kx_is)
    (case xu_BadShare => ks_is)
    case xv_BadShare|xm_BadShare|xp_BadShare|xc_BadShare|xd_BadShare|xo_BadShare => k_is
    (case xq_BadShare => first | rfl | k_is)
    (case xw_BadShare => first | rfl | k_is)
    case xz_BadShare|z_super|zt_any|qa_Share|qi_Share|qt_Share|qb_Share_bool|qb_Share_int|qb_Share_str|qb_Share_tuple|qb_Share_list|qb_Share_dict|qn|qk => k_is