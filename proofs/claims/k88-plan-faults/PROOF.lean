import PyProof.Rows.All
import Wide.All
import OpenK.AllK
import Wide.FinOn
import HandS.Base
import HandS.Call
import HandS.Dict
import HandS.Iter
import HandS.Comp
import HandS.DictComp
import HandS.IsInst
import KE.KDictKeyed
import KE.KeyNested
import KE.KDictWalk
import HandS.ForMost
import HandS.ForExc
import HandS.Wide
import HandS.Defaults
import HandS.MakeKwOnly
import HandS.CallSlots
import HandS.TupAny
import HandS.Rev
import HandS.Zip
import HandS.ExcSuper
import HandS.ExcInit
import HandS.TryOnly
import HandS.TryMany
import HandS.Lambda
import KE.KExcSuper
import KE.KSuper
import HandS.ExcField
import HandS.ExcIs
import HandS.More
import HandS.Conv
import HandS.Gcd
import HandS.Deep
import PyProof.ReprReads
import PyProof.ReprRoads
import HandS.RaiseMore
import PyProof.Draws
import PyProof.TupleIter
import PyProof.EnumMake
import HandS.MakeKw
import KE.KIsAll
import KE.KEqNest
import KE.KOpsOwn
import HandS.RevRange
import KE.KDictList
import KE.KDictCopyH
import PyProof.DictTruth
import HandS.Records
import HandS.Style
import HandS.Nested
import KE.KNestM
import HandS.NoneIn
import KE.KDictOf
import KE.OsRun
import KE.OsRunLaw
import PySem.Challenge.RW_labelgaps_k88_plan_faults
import PyProof.ReprLen
import KE.KExcLine
set_option Elab.async false
set_option linter.all false
set_option maxRecDepth 100000
set_option maxHeartbeats 2000000
set_option autoImplicit false
/-! dicts whose keys are tuples of whole numbers, bools, None and such tuples: told by the exact object -/
namespace DL
open PySem L2 PySem.Spec PyProof.Rows
mutual
/-- a key's hash: no world is in it where no text is -/
def nh : NestedKey → Int
  | .none => reduceHash 0xFCA86420
  | .num i => hashInt i
  | .text _ => 0
  | .tup ks => reduceHash (Builtin.Tuple.tupleHashOf (nhs ks))
def nhs : List NestedKey → List Int
  | [] => []
  | k :: ks => nh k :: nhs ks
end
mutual
def noT : NestedKey → Bool
  | .none => true
  | .num _ => true
  | .text _ => false
  | .tup ks => noTs ks
def noTs : List NestedKey → Bool
  | [] => true
  | k :: ks => noT k && noTs ks
end
mutual
theorem nh_eq (w : World) : ∀ k : NestedKey, noT k = true → NestedKey.hash w k = nh k
  | .none, _ => rfl
  | .num _, _ => rfl
  | .text _, h => by cases h
  | .tup ks, h => by rw [NestedKey.hash, nh, nhs_eq w ks h]
theorem nhs_eq (w : World) : ∀ ks : List NestedKey, noTs ks = true → NestedKey.hashes w ks = nhs ks
  | [], _ => rfl
  | k :: ks, h => by
    rw [noTs, Bool.and_eq_true] at h
    rw [NestedKey.hashes, nhs, nh_eq w k h.1, nhs_eq w ks h.2]
end
abbrev NEnt := NestedKey × Addr × Value
def ent (x : NEnt) : DictEntry := ⟨nh x.1, .ref x.2.1, x.2.2⟩
def okK (k : NestedKey) : Bool := noT k && decide (k.depth ≤ 8)
/-- the object is a dict of these entries -/
structure DOb (o : Obj) (xs : List NEnt) : Prop where
  ex : o.ExactDict
  dat : ∃ es ep, o.data = .dict es ep ∧ es.toList = xs.map ent
  nod : (xs.map (·.1)).Nodup
  ok : ∀ x ∈ xs, okK x.1 = true
  len : xs.length ≤ sizeLine
/-- known to the object -/
def exO (a : Addr) (o : Obj) : HO := .ext fun h => h.get? a = some o
theorem okK_hash {P : Program} {w : World} {x : NEnt} (h : okK x.1 = true) : entryOfKey (nestedKind P w) x = ent x := by
  unfold okK at h
  rw [Bool.and_eq_true] at h
  show (⟨NestedKey.hash w x.1, _, _⟩ : DictEntry) = _
  rw [nh_eq w x.1 h.1]
  rfl
theorem ents_eq {P : Program} {w : World} : ∀ {xs : List NEnt}, (∀ x ∈ xs, okK x.1 = true) → xs.map (entryOfKey (nestedKind P w)) = xs.map ent := fun {xs} h => List.map_congr_left fun x hx => okK_hash (h x hx)
mutual
/-- the value is the key -/
inductive KA (K : PySem.W.Frag) (H : Hp) : NestedKey → V → Prop
  | none : KA K H .none .non
  | bl (b : Bool) : KA K H (.num (if b = true then 1 else 0)) (.bl b)
  | int (i : Int) : KA K H (.num i) (.int i)
  | tup {a : Addr} {vs : List V} {ks : List NestedKey} : SqT K H a vs → KAs K H ks vs → KA K H (.tup ks) (.ref a)
inductive KAs (K : PySem.W.Frag) (H : Hp) : List NestedKey → List V → Prop
  | nil : KAs K H [] []
  | cons {k : NestedKey} {v : V} {ks : List NestedKey} {vs : List V} : KA K H k v → KAs K H ks vs → KAs K H (k :: ks) (v :: vs)
end
section
variable {X : Cx} {pins : List (Addr × Obj)} {σ : L2.St} {H : Hp} {s : Shared}
mutual
theorem KA.is (I : Inv X pins σ H s) : ∀ {k : NestedKey} {v : V} {u : Value}, KA X.K H k v → RelV v u → NestedIs s.heap k u
  | _, _, _, .none, r => by cases (show _ = Value.none from r); exact .none
  | _, _, _, .bl b, r => by cases (show _ = Value.bool b from r); exact .bool rfl
  | _, _, _, .int i, r => by obtain ⟨t, rfl⟩ := r; exact .int i t
  | _, _, _, .tup (a := a) (vs := vs) h r, e => by
    cases (show _ = Value.ref a from e)
    obtain ⟨its, rv, ⟨o, ho, hc, n, hd⟩, _⟩ := I.tuple h
    exact .tup ho hc hd (by simpa using KAs.is I r rv)
theorem KAs.is (I : Inv X pins σ H s) : ∀ {ks : List NestedKey} {vs : List V} {us : List Value}, KAs X.K H ks vs → Vals vs us → NestedAll s.heap ks us
  | _, _, _, .nil, .nil => .nil
  | _, _, _, .cons h r, .cons e q => .cons (KA.is I h e) (KAs.is I r q)
end
theorem exO_get {a : Addr} {o : Obj} (I : Inv X pins σ H s) (h : H a = some (exO a o)) : s.heap.get? a = some o := (I.hok a _ h).1
theorem exO_ok {P : Program} {w : World} {h : Heap} {a : Addr} {o : Obj} (e : h.get? a = some o) : ObjOk P w H h a (exO a o) := ⟨e, ⟨o, e⟩, fun _ _ h1 k => k o h1⟩
/-- the keys of all entries are there -/
def KeysA (K : PySem.W.Frag) (H : Hp) (xs : List NEnt) : Prop := ∀ x ∈ xs, KA K H x.1 (.ref x.2.1)
theorem dob_of {a : Addr} {o : Obj} {xs : List NEnt} (I : Inv X pins σ H s) (h : H a = some (exO a o)) (d : DOb o xs) (hk : KeysA X.K H xs) : s.heap.DictOfH (nestedKind X.prog X.w) a xs := by
  obtain ⟨es, ep, hd, he⟩ := d.dat
  refine ⟨o, es, ep, exO_get I h, d.ex, hd, by rw [he, ents_eq d.ok], fun x hx => ⟨KA.is I (hk x hx) rfl, ?_⟩, d.nod⟩
  have := d.ok x hx
  unfold okK at this
  rw [Bool.and_eq_true] at this
  exact of_decide_eq_true this.2
theorem key_is {k : NestedKey} {b : Addr} (I : Inv X pins σ H s) (h : KA X.K H k (.ref b)) (ok : okK k = true) : (nestedKind X.prog X.w).is s.heap k b := by
  refine ⟨KA.is I h rfl, ?_⟩
  unfold okK at ok
  rw [Bool.and_eq_true] at ok
  exact of_decide_eq_true ok.2
theorem room_n {A : Around} (hu : A.units + 64 < cLine) : (nestedKind X.prog X.w).room A.in1 := by
  show A.units + 1 + 8 < cLine
  omega
end
/-- d[k] -/
def rIxN (K : PySem.W.Frag) : R2 := fun x y H Q => ∃ (a b : Addr) (o : Obj) (xs : List NEnt) (k : NestedKey) (p : Addr × Value) (v : V), x = .ref a ∧ y = .ref b ∧ H a = some (exO a o) ∧ DOb o xs ∧ KeysA K H xs ∧ KA K H k (.ref b) ∧ okK k = true ∧ atKey xs k = some p ∧ RelV v p.2 ∧ Q v H
theorem ix_n {X : Cx} (hu : X.A.units + 64 < cLine) : IxR X (rIxN X.K) := by
  intro value slice pins s σ H x y v u Q I rx ry h hs
  obtain ⟨a, b, o, xs, k, p, z, rfl, rfl, hd, d, hk, hb, ok, ha, rz, q⟩ := h
  cases (show v = Value.ref a from rx)
  cases (show u = Value.ref b from ry)
  have dd := dob_of I hd d hk
  exact subscriptTail_builtinR (x := p.2) dd.typeIs PySem.F.slot_dict_getitem.lookup
    (wpAny_getItem_heap (Q := fun r s' => r = p.2 ∧ EP X pins σ Q r s') (room_n hu) (key_is I hb ok) dd ha ⟨rfl, z, H, I.tok _, rz, q⟩) hs
/-- what the dict at a is: of these entries -/
def DAt (K : PySem.W.Frag) (H : Hp) (a : Addr) (xs : List NEnt) : Prop := (H a = some (.dK []) ∧ xs = []) ∨ ∃ o, H a = some (exO a o) ∧ DOb o xs ∧ (a == sysModules) = false ∧ KeysA K H xs
theorem dat_of {X : Cx} {pins : List (Addr × Obj)} {σ : L2.St} {H : Hp} {s : Shared} {a : Addr} {xs : List NEnt} (I : Inv X pins σ H s) (h : DAt X.K H a xs) : s.heap.DictOfH (nestedKind X.prog X.w) a xs ∧ (a == sysModules) = false ∧ xs.length ≤ sizeLine ∧ Mut (H a) ∧ ∀ x ∈ xs, okK x.1 = true := by
  rcases h with ⟨h, rfl⟩ | ⟨o, h, d, hm, hk⟩
  · obtain ⟨_, hs, vs, rel, dd⟩ := dk_of I.hok h
    cases rel
    obtain ⟨o, es, ep, ho, hx, hdt, r⟩ := dd
    refine ⟨⟨o, es, ep, ho, hx, hdt, ?_, fun _ h => (nomatch h), List.nodup_nil⟩, hs, Nat.zero_le _, by rw [h]; exact True.intro, fun _ h => (nomatch h)⟩
    have l := r.2.1.length
    simpa using l
  · exact ⟨dob_of I h d hk, hm, d.len, by rw [h]; exact True.intro, d.ok⟩
/-- k in d, k not in d -/
def rInN (K : PySem.W.Frag) (g : Bool → Bool) : R2 := fun y x H Q => ∃ (a b : Addr) (xs : List NEnt) (k : NestedKey), x = .ref a ∧ y = .ref b ∧ DAt K H a xs ∧ KA K H k (.ref b) ∧ okK k = true ∧ Q (.bl (g (atKey xs k).isSome)) H
theorem op_inN {X : Cx} (hu : X.A.units + 64 < cLine) : OpR X (compareOp .In) (rInN X.K fun b => b) := by
  intro pins s σ H x y v u Q I rx ry h
  obtain ⟨a, b, xs, k, rfl, rfl, d, hb, ok, q⟩ := h
  cases (show v = Value.ref b from rx)
  cases (show u = Value.ref a from ry)
  obtain ⟨dd, hm, _⟩ := dat_of I d
  exact wpAny_in_heap (room_n hu) (key_is I hb ok) hm dd ⟨.bl (atKey xs k).isSome, H, I.tok _, rfl, q⟩
theorem op_notInN {X : Cx} (hu : X.A.units + 64 < cLine) : OpR X (compareOp .NotIn) (rInN X.K not) := by
  intro pins s σ H x y v u Q I rx ry h
  obtain ⟨a, b, xs, k, rfl, rfl, d, hb, ok, q⟩ := h
  cases (show v = Value.ref b from rx)
  cases (show u = Value.ref a from ry)
  obtain ⟨dd, hm, _⟩ := dat_of I d
  exact wpAny_notIn_heap (room_n hu) (key_is I hb ok) hm dd ⟨.bl (!(atKey xs k).isSome), H, I.tok _, rfl, q⟩
/-- d[k] = v -/
def sNPut (K : PySem.W.Frag) (td ty tv : TE) : TS := fun D σ H => tv σ H fun v H1 => td σ H1 fun x H2 => ty σ H2 fun y H3 => ∃ (a b : Addr) (xs : List NEnt) (k : NestedKey), x = .ref a ∧ y = .ref b ∧ DAt K H3 a xs ∧ KA K H3 k (.ref b) ∧ okK k = true ∧ xs.length < sizeLine ∧
  ∀ (o' : Obj) (u : Value), RelV v u → (a == sysModules) = false → DOb o' (storedH xs k b u) → D.nx σ (upd H3 a (exO a o'))
theorem storedH_len (xs : List NEnt) (k : NestedKey) (b : Addr) (u : Value) : (storedH xs k b u).length ≤ xs.length + 1 := by
  unfold storedH
  split <;> simp
theorem storedH_ok {xs : List NEnt} {k : NestedKey} {b : Addr} {u : Value} (h : ∀ x ∈ xs, okK x.1 = true) (hk : okK k = true) : ∀ x ∈ storedH xs k b u, okK x.1 = true := by
  intro x hx
  unfold storedH at hx
  split at hx
  · obtain ⟨y, hy, rfl⟩ := List.mem_map.mp hx
    unfold putAt
    split <;> exact h y hy
  · rcases List.mem_append.mp hx with q | q
    · exact h x q
    · cases List.mem_singleton.mp q
      exact hk
theorem n_setItem {X : Cx} {pins : List (Addr × Obj)} {σ : L2.St} {H : Hp} {s : Shared} {a b : Addr} {xs : List NEnt} {k : NestedKey} {r : Value} {E : Value → Shared → Prop} {Q : Unit → Shared → Prop} (hu : X.A.units + 64 < cLine) (I : Inv X pins σ H s) (d : DAt X.K H a xs) (hb : KA X.K H k (.ref b)) (ok : okK k = true) (hl : xs.length < sizeLine)
    (h : ∀ (o' : Obj) (s' : Shared), (a == sysModules) = false → DOb o' (storedH xs k b r) → Inv X pins σ (upd H a (exO a o')) s' → Q () s') : wpAny (model X.prog X.w) X.A (setItem (.ref a) (.ref b) r) Q E s := by
  obtain ⟨dd, hm, hz, mu, hok⟩ := dat_of I d
  refine wpAny_setItem_heap (hsz := hz) (room_n hu) (key_is I hb ok) dd fun h' dd' hs => ?_
  obtain ⟨q, es, ep, hq, h2, h3, h4, _, h5⟩ := dd'
  have hok' := storedH_ok (b := b) (u := r) hok ok
  refine h q _ hm ⟨h2, ⟨es, ep, h3, by rw [h4, ents_eq hok']⟩, h5, hok', ?_⟩ (d_write I mu hs ⟨q, hq⟩ (exO_ok hq))
  have := storedH_len xs k b r
  omega
theorem ps_nput {X : Cx} {o i value : Expr} {pos pos' : Pos} {td ty tv : TE} (hu : X.A.units + 64 < cLine) (ho : PE X o td) (hi : PE X i ty) (hv : PE X value tv) (hs : swapsWith value (some (.Subscript o i pos')) pos.line X.env = pure false) :
    PS X (.Assign [.Subscript o i pos'] value pos) (sNPut X.K td ty tv) := by
  refine ⟨fun pins s σ H D I h => ?_⟩
  refine wpAny_Assign_Subscript (thn (hv.run pins s σ H _ I h) fun r s1 ⟨v, H1, I1, rv, q1⟩ => thn (ho.run pins s1 σ H1 _ I1 q1) fun u s2 ⟨x, H2, I2, rx, q2⟩ => thn (hi.run pins s2 σ H2 _ I2 q2) fun iv s3 ⟨y, H3, I3, ry, a, b, xs, k, ex, ey, d, hb, ok, hl, q3⟩ => ?_) hs
  subst ex ey
  obtain rfl : u = Value.ref a := rx
  obtain rfl : iv = Value.ref b := ry
  exact n_setItem hu I3 d hb ok hl fun o' s4 hm d' I4 => ⟨σ, _, I4, q3 o' r rv hm d'⟩
/-! ### the keys, one by one -/
def Itn (a : Addr) (o : Obj) (xs : List NEnt) : It :=
  ⟨fun i H => H a = some (exO a o) ∧ i < xs.length, fun i H x H' => H' = H ∧ ∃ y, xs[i]? = some y ∧ x = .ref y.2.1, fun i H => H a = some (exO a o) ∧ xs.length ≤ i⟩
theorem ent_get {xs : List NEnt} {es : Array DictEntry} (he : es.toList = xs.map ent) (i : Nat) : es[i]? = (xs[i]?).map ent := by
  rw [← Array.getElem?_toList, he, List.getElem?_map]
theorem ent_size {xs : List NEnt} {es : Array DictEntry} (he : es.toList = xs.map ent) : es.size = xs.length := by
  have := congrArg List.length he
  simpa using this
theorem turn_n {P : Program} {w : World} {K : PySem.W.Frag} {tg : Expr} {a : Addr} {o : Obj} {es : Array DictEntry} {ep : Nat} {xs : List NEnt} (it : Addr) (hod : o.data = .dict es ep) (he : es.toList = xs.map ent) : Turn P w K tg (Itn a o xs) [it] it (fun i h => h.IsKeyIter it a i xs.length ep) where
  mem := by simp
  obj := fun i h st b hb => by
    have e : b = it := by simpa using hb
    subst e
    obtain ⟨oi, e, c, dd⟩ := st
    exact ⟨oi, e, fun v z => by rw [dd] at z; cases z⟩
  keep := fun i h h' st k => st.at fun oi e => k it (by simp) oi e
  item := by
    intro X hP hw hK hc i pins s σ H E I hf st hg
    subst hP hw hK
    obtain ⟨hd, hi⟩ := hg
    obtain ⟨f0, f1, f2, f3, f4, f5⟩ := hf it (by simp)
    have hgd := exO_get I hd
    have hen : es[i]? = some (ent xs[i]) := by rw [ent_get he, List.getElem?_eq_getElem hi]; rfl
    refine next_key_item st hgd hod (ent_size he) hen fun h' st' sb => ?_
    have I1 : Inv X pins σ H { s with heap := h' } := I.turned (t' := s.toks) (fun b ob hb e => (sb.2 b hb).trans e) f0 f1 f3 f4 f5
    obtain ⟨oi, e, c, dd⟩ := id st'
    exact ⟨_, rfl, go_of (s := { s with heap := h' }) e c dd (by decide) ⟨.ref (xs[i]).2.1, H, I1, rfl, ⟨rfl, xs[i], List.getElem?_eq_getElem hi, rfl⟩, st', fun b hb => (hf b hb).1⟩⟩
  done := by
    intro X hP hw hK hc i pins s σ H E I hf st hg
    subst hP hw hK
    obtain ⟨hd, hi⟩ := hg
    obtain ⟨f0, f1, f2, f3, f4, f5⟩ := hf it (by simp)
    exact next_key_end (I.ok.hd hc) st (exO_get I hd) hod (ent_size he) hi fun h' eb => ⟨rfl, I.turned (t' := s.toks) (fun b ob hb e => eb b ob hb e) f0 f1 f3 f4 f5⟩
  self := fun A i s Q E st h => by
    refine wpAny_pyIter_slot st.typeIs F.slot_dict_keyiterator_iter (wpAny_call_entry F.slot_dict_keyiterator_iter st.typeIs F.entry_dict_keyiterator_iter ?_ (F.args_dict_keyiterator_iter_1 _))
    show wpAny _ _ (ret (.ref it)) _ _ s
    exact wpAny_pure ⟨_, rfl, "dict_keyiterator", _, st.typeIs, F.slot_dict_keyiterator_next.lookup, h⟩
end DL
namespace DL
open PySem L2 PySem.Spec PyProof.Rows
/-- a value's type, with the dicts that are told by their object -/
inductive TyY (K : PySem.W.Frag) (H : Hp) : V → Value → Prop where
  | x {v : V} {t : Value} (h : TyX K H v t) : TyY K H v t
  | ex {a : Addr} {o : Obj} (e : H a = some (exO a o)) (c : o.cls = .type "dict") : TyY K H (.ref a) (.type "dict")
theorem kit_ofY {X : Cx} {pins : List (Addr × Obj)} {σ : L2.St} {H : Hp} {s : Shared} {x : V} {u t : Value} (I : Inv X pins σ H s) (rx : RelV x u) (ty : TyY X.K H x t) : ∃ P : Heap → Prop, PySem.W.KitX X.K u t P ∧ P s.heap ∧ u ≠ .builtin "__main__.__loader__#opaque" := by
  cases ty with
  | x h => exact kit_of I rx h
  | @ex a o e c =>
    cases (show u = Value.ref a from rx)
    exact ⟨_, PySem.W.kitx_dict, ⟨o, exO_get I e, c⟩, fun z => nomatch z⟩
def rIsiA (K : PySem.W.Frag) : List V → Hp → VK → Prop := fun xs H Q => ∃ (x c : V) (t u : Value) (b : Bool), xs = [x, c] ∧ ClsV c u ∧ TyY K H x t ∧ PySem.W.kitOne K t u = some b ∧ Q (.bl b) H
theorem call_isiA {X : Cx} : CallR X (.builtin "isinstance") (rIsiA X.K) := by
  intro pins s σ H xs us Q I r h
  obtain ⟨x, c, t, u, b, rfl, k, ty, e, q⟩ := h
  obtain ⟨u1, u2, rfl, r1, r2⟩ := vals2 r
  have e2 := k.eq r2
  subst e2
  obtain ⟨P, Z, p, hx⟩ := kit_ofY I r1 ty
  exact PySem.W.kia_one Z I.kIn p e hx fun tk => ⟨.bl b, H, I.tok tk, rfl, q⟩
end DL
set_option maxRecDepth 100000
set_option maxHeartbeats 2000000
set_option autoImplicit false
/-! DL: a layer of plain data over the hand layer: every def's body as a function on data (its run), proved once for each construct. -/
namespace DL
open PySem L2
/-! ### what is fixed for a program: its classes, its lambdas, the tables of the defs that make them -/
structure LamR where
  qual : Str
  params : Arguments
  body : Expr
  scope : Scope
  fr : List Str
structure Kp where
  c : Nat → Addr
  lam : Nat → Option LamR
  tab : List (Addr × Str)
instance : CoeFun Kp (fun _ => Nat → Addr) := ⟨Kp.c⟩
/-- an object, told whole -/
def ObjX (a : Addr) (o : Obj) : HO := .ext fun h => h.get? a = some o
/-! ### data -/
/-- a class: a built-in one by its name, one of the program's own by its number -/
inductive Ty where
  | b (T : String) | o (c : Nat)
inductive D where
  | non | bl (b : Bool) | int (i : Int) | str (s : Str)
  | tup (xs : List D) | lst (xs : List D)
  | scr (xs : List D)
  | dk (kvs : List (Key × D))
  | dn (kvs : List (D × D))
  | obj (c : Nat) (fs : List (Str × D))
  | cls (t : Ty)
  | fn (j : Nat) (ds : List D)
  | any
mutual
/-- data as a key -/
def keyD : D → Option NestedKey
  | .non => some .none
  | .bl b => some (.num (if b = true then 1 else 0))
  | .int i => some (.num i)
  | .tup ds => (keyDs ds).map .tup
  | _ => none
def keyDs : List D → Option (List NestedKey)
  | [] => some []
  | d :: ds => (keyD d).bind fun k => (keyDs ds).map fun ks => k :: ks
end
/-- a tuple as a key -/
def keyN (d : D) : Option NestedKey := match d with
  | .tup ds => (keyDs ds).bind fun ks => if okK (.tup ks) = true then some (.tup ks) else none
  | _ => none
/-- no code object's table -/
def NTF (F : Hp) : Prop := ∀ a ps, F a ≠ some (.tbl ps)
theorem NTF.upd {F : Hp} {p : Addr} {o : HO} (h : NTF F) (ho : ∀ ps, o ≠ .tbl ps) : NTF (upd F p o) := fun a ps e => by
  by_cases q : a = p
  · subst q; rw [upd_same] at e; exact ho ps (Option.some.inj e)
  · rw [upd_ne q] at e; exact h a ps e
/-- all but the tables stay -/
def SameT (F F' : Hp) : Prop := ∀ a o, F a = some o → (∀ ps, o ≠ .tbl ps) → F' a = some o
theorem SameT.of {F F' : Hp} (e : Same F F') : SameT F F' := fun a o h _ => e a o h
/-- the cells that a lambda captured -/
def CellsX (F : Hp) (cs : List Addr) (vs : List V) : Prop := cs.length = vs.length ∧ ∀ (i : Nat) (c : Addr) (v : V), cs[i]? = some c → vs[i]? = some v → ∃ (o : Obj) (u : Value), F c = some (ObjX c o) ∧ o.data = .cell (some u) ∧ L2.RelV v u
/-- a lambda's object: its words, the cells by name, its code object -/
structure LamO (L : LamR) (cs : List Addr) (c' : Addr) (o : Obj) : Prop where
  ex : ∃ (cl : List (Str × Addr)) (pm ctv : Value), o = PySem.W.kla_obj "<lambda>" L.qual L.params L.body L.scope cl pm c' ctv ∧ (∀ y c, cl.lookup y = some c → ∃ i : Nat, L.fr[i]? = some y ∧ cs[i]? = some c) ∧ ∀ (i : Nat) (y : Str), L.fr[i]? = some y → ∃ c, cs[i]? = some c ∧ cl.lookup y = some c
  nd : cs.Nodup
  len : cs.length = L.fr.length
mutual
inductive Rep (K : PySem.W.Frag) (kap : Kp) (F : Hp) : V → D → Prop
  | non : Rep K kap F .non .non
  | bl (b : Bool) : Rep K kap F (.bl b) (.bl b)
  | int (i : Int) : Rep K kap F (.int i) (.int i)
  | str (s : Str) : Rep K kap F (.str s) (.str s)
  | tup {a : Addr} {vs : List V} {ds : List D} : SqT K F a vs → Reps K kap F vs ds → Rep K kap F (.ref a) (.tup ds)
  | lst {a : Addr} {vs : List V} {ds : List D} : F a = some (.lst vs) → Reps K kap F vs ds → Rep K kap F (.ref a) (.lst ds)
  | scr {a : Addr} {vs : List V} {ds : List D} : SqL K F a vs → Reps K kap F vs ds → Rep K kap F (.ref a) (.scr ds)
  | dk {a : Addr} {kvs : List (Key × V)} {ds : List (Key × D)} : F a = some (.dK kvs) → kvs.map (·.1) = ds.map (·.1) → Reps K kap F (kvs.map (·.2)) (ds.map (·.2)) → Rep K kap F (.ref a) (.dk ds)
  | dn {a : Addr} {o : Obj} {xs : List NEnt} {vs : List V} {ds : List (D × D)} : F a = some (exO a o) → DOb o xs → (a == sysModules) = false → Vals vs (xs.map (·.2.2)) → (xs.map fun x => some x.1) = ds.map (fun p => keyN p.1) → Reps K kap F (xs.map fun x => V.ref x.2.1) (ds.map (·.1)) → Reps K kap F vs (ds.map (·.2)) → Rep K kap F (.ref a) (.dn ds)
  | obj {a dx : Addr} {vs : List (Str × V)} {fs : List (Str × D)} {c : Nat} : F a = some (.ins (kap c) dx vs) → vs.map (·.1) = fs.map (·.1) → Reps K kap F (vs.map (·.2)) (fs.map (·.2)) → Rep K kap F (.ref a) (.obj c fs)
  | clsB (T : String) : Rep K kap F (.ty T) (.cls (.b T))
  | clsO (c : Nat) : Rep K kap F (.ref (kap c)) (.cls (.o c))
  | any (a : Addr) : Rep K kap F (.ref a) .any
  | fn {f c' : Addr} {o : Obj} {cs : List Addr} {vs : List V} {ds : List D} {j : Nat} {L : LamR} : kap.lam j = some L → F f = some (ObjX f o) → LamO L cs c' o → CellsX F cs vs → Reps K kap F vs ds → Rep K kap F (.ref f) (.fn j ds)
inductive Reps (K : PySem.W.Frag) (kap : Kp) (F : Hp) : List V → List D → Prop
  | nil : Reps K kap F [] []
  | cons {v : V} {d : D} {vs : List V} {ds : List D} : Rep K kap F v d → Reps K kap F vs ds → Reps K kap F (v :: vs) (d :: ds)
end
theorem sqT_monoT {K : PySem.W.Frag} {F F' : Hp} {a : Addr} {xs : List V} (e : SameT F F') (h : SqT K F a xs) : SqT K F' a xs := by
  rcases h with (h | ⟨o, h⟩) | h
  · exact .inl (.inl (e _ _ h (by simp)))
  · exact .inl (.inr ⟨o, e _ _ h (by simp)⟩)
  · exact .inr h
theorem sqL_monoT {K : PySem.W.Frag} {F F' : Hp} {a : Addr} {xs : List V} (e : SameT F F') (h : SqL K F a xs) : SqL K F' a xs := by
  rcases h with (h | ⟨o, h⟩) | h
  · exact .inl (.inl (e _ _ h (by simp)))
  · exact .inl (.inr ⟨o, e _ _ h (by simp)⟩)
  · exact .inr h
theorem cells_monoT {F F' : Hp} {cs : List Addr} {vs : List V} (e : SameT F F') (h : CellsX F cs vs) : CellsX F' cs vs := ⟨h.1, fun i c v a b => let ⟨o, u, g1, g2, g3⟩ := h.2 i c v a b; ⟨o, u, e _ _ g1 (fun ps z => by unfold ObjX at z; cases z), g2, g3⟩⟩
theorem sqT_mono {K : PySem.W.Frag} {F F' : Hp} {a : Addr} {xs : List V} (e : Same F F') (h : SqT K F a xs) : SqT K F' a xs := sqT_monoT (.of e) h
theorem sqL_mono {K : PySem.W.Frag} {F F' : Hp} {a : Addr} {xs : List V} (e : Same F F') (h : SqL K F a xs) : SqL K F' a xs := e.seq h
section
variable {K : PySem.W.Frag} {kap : Kp} {F F' H H' : Hp}
mutual
theorem Rep.monoT (e : SameT F F') : ∀ {v : V} {d : D}, Rep K kap F v d → Rep K kap F' v d
  | _, _, .non => .non
  | _, _, .bl b => .bl b
  | _, _, .int i => .int i
  | _, _, .str s => .str s
  | _, _, .tup h r => .tup (sqT_monoT e h) (Reps.monoT e r)
  | _, _, .lst h r => .lst (e _ _ h (by simp)) (Reps.monoT e r)
  | _, _, .scr h r => .scr (sqL_monoT e h) (Reps.monoT e r)
  | _, _, .dk h n r => .dk (e _ _ h (by simp)) n (Reps.monoT e r)
  | _, _, .dn h d m v n r q => .dn (e _ _ h (by unfold exO; simp)) d m v n (Reps.monoT e r) (Reps.monoT e q)
  | _, _, .obj h n r => .obj (e _ _ h (by simp)) n (Reps.monoT e r)
  | _, _, .clsB T => .clsB T
  | _, _, .clsO c => .clsO c
  | _, _, .any a => .any a
  | _, _, .fn l h o k r => .fn l (e _ _ h (by unfold ObjX; simp)) o (cells_monoT e k) (Reps.monoT e r)
theorem Reps.monoT (e : SameT F F') : ∀ {vs : List V} {ds : List D}, Reps K kap F vs ds → Reps K kap F' vs ds
  | _, _, .nil => .nil
  | _, _, .cons h r => .cons (Rep.monoT e h) (Reps.monoT e r)
end
theorem Rep.mono (e : Same F F') {v : V} {d : D} (h : Rep K kap F v d) : Rep K kap F' v d := h.monoT (.of e)
theorem Reps.mono (e : Same F F') {vs : List V} {ds : List D} (h : Reps K kap F vs ds) : Reps K kap F' vs ds := h.monoT (.of e)
/-- a heap without its tables -/
def nT (H : Hp) : Hp := fun a => match H a with
  | some (.tbl _) => none
  | o => o
theorem nT_sub (H : Hp) : Same (nT H) H := fun a o e => by
  unfold nT at e
  split at e
  · cases e
  · exact e
theorem nT_nt (H : Hp) : NTF (nT H) := fun a ps e => by
  unfold nT at e
  split at e
  · cases e
  · rename_i h; exact h ps e
theorem nT_same (H : Hp) : SameT H (nT H) := fun a o e n => by
  unfold nT
  split
  · rename_i ps h; rw [h] at e; cases e; exact absurd rfl (n ps)
  · exact e
theorem Reps.length : ∀ {vs : List V} {ds : List D}, Reps K kap F vs ds → vs.length = ds.length
  | _, _, .nil => rfl
  | _, _, .cons _ r => congrArg Nat.succ (Reps.length r)
theorem Reps.get : ∀ {vs : List V} {ds : List D} {i : Nat} {d : D}, Reps K kap F vs ds → ds[i]? = some d → ∃ v, vs[i]? = some v ∧ Rep K kap F v d
  | _, _, _, _, .nil, e => by simp at e
  | _, _, 0, _, .cons h _, e => by simp at e; subst e; exact ⟨_, rfl, h⟩
  | _, _, i + 1, d, .cons _ r, e => by
    obtain ⟨v, h1, h2⟩ := Reps.get (i := i) (d := d) r (by simpa using e)
    exact ⟨v, by simpa using h1, h2⟩
theorem Reps.append : ∀ {vs ws : List V} {ds es : List D}, Reps K kap F vs ds → Reps K kap F ws es → Reps K kap F (vs ++ ws) (ds ++ es)
  | _, _, _, _, .nil, q => q
  | _, _, _, _, .cons h r, q => .cons h (Reps.append r q)
theorem Reps.drop : ∀ {vs : List V} {ds : List D} (n : Nat), Reps K kap F vs ds → Reps K kap F (vs.drop n) (ds.drop n)
  | _, _, 0, r => r
  | _, _, n + 1, .nil => .nil
  | _, _, n + 1, .cons _ r => Reps.drop n r
theorem Reps.take : ∀ {vs : List V} {ds : List D} (n : Nat), Reps K kap F vs ds → Reps K kap F (vs.take n) (ds.take n)
  | _, _, 0, _ => .nil
  | _, _, n + 1, .nil => .nil
  | _, _, n + 1, .cons h r => .cons h (Reps.take n r)
theorem Reps.set {v : V} {d : D} (h : Rep K kap F v d) : ∀ {vs : List V} {ds : List D} (n : Nat), Reps K kap F vs ds → Reps K kap F (vs.set n v) (ds.set n d)
  | _, _, _, .nil => .nil
  | _, _, 0, .cons _ r => .cons h r
  | _, _, n + 1, .cons q r => .cons q (Reps.set h n r)
theorem Reps.ints : ∀ (l : List Int), Reps K kap F (l.map V.int) (l.map D.int)
  | [] => .nil
  | i :: l => .cons (.int i) (Reps.ints l)
/-- fields by name -/
theorem field_get : ∀ {vs : List (Str × V)} {fs : List (Str × D)} {f : Str} {d : D}, vs.map (·.1) = fs.map (·.1) → Reps K kap F (vs.map (·.2)) (fs.map (·.2)) → fs.lookup f = some d → ∃ v, vs.lookup f = some v ∧ Rep K kap F v d
  | [], [], f, d, _, _, e => by simp at e
  | [], _ :: _, f, d, n, _, _ => by simp at n
  | _ :: _, [], f, d, n, _, _ => by simp at n
  | (g, v) :: vs, (g', d') :: fs, f, d, n, .cons h r, e => by
    simp only [List.map_cons, List.cons.injEq] at n
    obtain ⟨rfl, n⟩ := n
    by_cases q : f = g
    · subst q
      simp [List.lookup] at e
      subst e
      exact ⟨v, by simp [List.lookup], h⟩
    · have hq : (f == g) = false := by simpa using q
      simp only [List.lookup, hq] at e ⊢
      exact field_get n r e
/-- a field is stored -/
def putD (f : Str) (v : D) : List (Str × D) → List (Str × D)
  | [] => [(f, v)]
  | (g, x) :: r => if g = f then (g, v) :: r else (g, x) :: putD f v r
theorem put_names (f : Str) (v : V) (d : D) : ∀ {vs : List (Str × V)} {fs : List (Str × D)}, vs.map (·.1) = fs.map (·.1) → (putF f v vs).map (·.1) = (putD f d fs).map (·.1)
  | [], [], _ => rfl
  | [], _ :: _, n => by simp at n
  | _ :: _, [], n => by simp at n
  | (g, x) :: vs, (g', y) :: fs, n => by
    simp only [List.map_cons, List.cons.injEq] at n
    obtain ⟨rfl, n⟩ := n
    unfold putF putD
    split
    · simp [n]
    · simp [put_names f v d n]
theorem put_reps {f : Str} {v : V} {d : D} (h : Rep K kap F v d) : ∀ {vs : List (Str × V)} {fs : List (Str × D)}, vs.map (·.1) = fs.map (·.1) → Reps K kap F (vs.map (·.2)) (fs.map (·.2)) → Reps K kap F ((putF f v vs).map (·.2)) ((putD f d fs).map (·.2))
  | [], [], _, _ => .cons h .nil
  | [], _ :: _, n, _ => by simp at n
  | _ :: _, [], n, _ => by simp at n
  | (g, x) :: vs, (g', y) :: fs, n, .cons q r => by
    simp only [List.map_cons, List.cons.injEq] at n
    obtain ⟨rfl, n⟩ := n
    unfold putF putD
    split
    · exact .cons h r
    · exact .cons q (put_reps h n r)
end
/-! ### what is owned -/
/-- the content of an owned object at p: told of the heap, its parts of the frozen part -/
def Own (K : PySem.W.Frag) (kap : Kp) (F H : Hp) (p : Addr) : D → Prop
  | .lst ds => ∃ vs, H p = some (.lst vs) ∧ Reps K kap F vs ds
  | .dk ds => ∃ kvs : List (Key × V), H p = some (.dK kvs) ∧ kvs.map (·.1) = ds.map (·.1) ∧ Reps K kap F (kvs.map (·.2)) (ds.map (·.2))
  | .dn ds => ∃ (o : Obj) (xs : List NEnt) (vs : List V), H p = some (exO p o) ∧ DOb o xs ∧ (p == sysModules) = false ∧ Vals vs (xs.map (·.2.2)) ∧ (xs.map fun x => some x.1) = ds.map (fun p => keyN p.1) ∧ Reps K kap F (xs.map fun x => V.ref x.2.1) (ds.map (·.1)) ∧ Reps K kap F vs (ds.map (·.2))
  | .obj c fs => ∃ dx vs, H p = some (.ins (kap c) dx vs) ∧ vs.map (·.1) = fs.map (·.1) ∧ Reps K kap F (vs.map (·.2)) (fs.map (·.2))
  | _ => False
section
variable {K : PySem.W.Frag} {kap : Kp} {F F' H H' : Hp} {p : Addr} {d : D}
theorem Own.mono (e : Same F F') (hp : H' p = H p) (h : Own K kap F H p d) : Own K kap F' H' p d := by
  cases d with
  | lst ds => obtain ⟨vs, h1, h2⟩ := h; exact ⟨vs, hp.trans h1, h2.mono e⟩
  | dk ds => obtain ⟨vs, h1, h2, h3⟩ := h; exact ⟨vs, hp.trans h1, h2, h3.mono e⟩
  | dn ds => obtain ⟨o, xs, vs, h1, h2, h3, h4, h5, h6, h7⟩ := h; exact ⟨o, xs, vs, hp.trans h1, h2, h3, h4, h5, h6.mono e, h7.mono e⟩
  | obj c fs => obtain ⟨dx, vs, h1, h2, h3⟩ := h; exact ⟨dx, vs, hp.trans h1, h2, h3.mono e⟩
  | _ => exact h.elim
theorem Own.some (h : Own K kap F H p d) : ∃ o, H p = some o := by
  cases d with
  | lst ds => obtain ⟨vs, h1, h2⟩ := h; exact ⟨_, h1⟩
  | dk ds => obtain ⟨vs, h1, h2, h3⟩ := h; exact ⟨_, h1⟩
  | dn ds => obtain ⟨o, xs, vs, h1, _⟩ := h; exact ⟨_, h1⟩
  | obj c fs => obtain ⟨dx, vs, h1, h2, h3⟩ := h; exact ⟨_, h1⟩
  | _ => exact h.elim
/-- read in the heap as it is -/
theorem Own.rep (e : Same F H) (h : Own K kap F H p d) : Rep K kap H (.ref p) d := by
  cases d with
  | lst ds => obtain ⟨vs, h1, h2⟩ := h; exact .lst h1 (h2.mono e)
  | dk ds => obtain ⟨vs, h1, h2, h3⟩ := h; exact .dk h1 h2 (h3.mono e)
  | dn ds => obtain ⟨o, xs, vs, h1, h2, h3, h4, h5, h6, h7⟩ := h; exact .dn h1 h2 h3 h4 h5 (h6.mono e) (h7.mono e)
  | obj c fs => obtain ⟨dx, vs, h1, h2, h3⟩ := h; exact .obj h1 h2 (h3.mono e)
  | _ => exact h.elim
theorem same_upd {F : Hp} {p : Addr} {o : HO} (h : F p = none) : Same F (upd F p o) := fun b u e => by
  rw [upd_ne (ne_of_none e h)]; exact e
/-- frozen -/
theorem Own.freeze (hp : F p = none) (h : Own K kap F H p d) : ∃ o, H p = Option.some o ∧ Rep K kap (upd F p o) (.ref p) d := by
  cases d with
  | lst ds => obtain ⟨vs, h1, h2⟩ := h; exact ⟨_, h1, .lst upd_same (h2.mono (same_upd hp))⟩
  | dk ds => obtain ⟨vs, h1, h2, h3⟩ := h; exact ⟨_, h1, .dk upd_same h2 (h3.mono (same_upd hp))⟩
  | dn ds => obtain ⟨o, xs, vs, h1, h2, h3, h4, h5, h6, h7⟩ := h; exact ⟨_, h1, .dn upd_same h2 h3 h4 h5 (h6.mono (same_upd hp)) (h7.mono (same_upd hp))⟩
  | obj c fs => obtain ⟨dx, vs, h1, h2, h3⟩ := h; exact ⟨_, h1, .obj upd_same h2 (h3.mono (same_upd hp))⟩
  | _ => exact h.elim
end
theorem Own.notTbl {K : PySem.W.Frag} {kap : Kp} {F H : Hp} {p : Addr} {d : D} (h : Own K kap F H p d) (ps : Array Value) : H p ≠ Option.some (HO.tbl ps) := by
  cases d with
  | lst ds => obtain ⟨vs, h1, h2⟩ := h; rw [h1]; simp
  | dk ds => obtain ⟨vs, h1, h2, h3⟩ := h; rw [h1]; simp
  | dn ds => obtain ⟨o, xs, vs, h1, _⟩ := h; rw [h1]; unfold exO; simp
  | obj c fs => obtain ⟨dx, vs, h1, h2, h3⟩ := h; rw [h1]; simp
  | _ => exact h.elim
/-- a heap with one object -/
theorem heap_at (a : Addr) (o : Obj) (ho : o.isFreed = false) : ∃ h : Heap, h.get? a = some o := by
  have key : ∀ n : Nat, ∃ h : Heap, h.objs.size = n := fun n => by
    induction n with
    | zero => exact ⟨{}, rfl⟩
    | succ n ih =>
      obtain ⟨h, e⟩ := ih
      exact ⟨h.push o, by rw [Heap.size_push, e]⟩
  obtain ⟨h, e⟩ := key a
  refine ⟨h.push o, ?_⟩
  rw [← e]
  exact Heap.get?_push_size h ho
theorem live_dict {o : Obj} (h : ∃ es ep, o.data = .dict es ep) : o.isFreed = false := by
  obtain ⟨es, ep, hd⟩ := h
  obtain ⟨a, b, c, d⟩ := o
  dsimp only at hd
  subst hd
  rfl
theorem Own.notCode {K : PySem.W.Frag} {kap : Kp} {F H : Hp} {p : Addr} {d : D} (h : Own K kap F H p d) (q : Str) : H p ≠ Option.some (LamX.CodeO p q) := by
  cases d with
  | lst ds => obtain ⟨vs, h1, h2⟩ := h; rw [h1]; unfold LamX.CodeO; simp
  | dk ds => obtain ⟨vs, h1, h2, h3⟩ := h; rw [h1]; unfold LamX.CodeO; simp
  | dn ds =>
    obtain ⟨o, xs, vs, h1, h2, _⟩ := h
    rw [h1]
    intro z
    have z := Option.some.inj z
    unfold exO LamX.CodeO at z
    injection z with z
    obtain ⟨es, ep, e5, _⟩ := h2.dat
    obtain ⟨g, hg⟩ := heap_at p o (live_dict ⟨es, ep, e5⟩)
    have e := congrFun z g
    have e2 : ∃ (oc : Obj) (vs : Array Value) (t : Tok), g.get? p = Option.some oc ∧ oc.data = .fields vs ∧ vs[1]? = Option.some (.str q t) := cast e hg
    obtain ⟨oc, ws, t, e3, e4, _⟩ := e2
    rw [hg] at e3
    cases e3
    rw [e4] at e5
    cases e5
  | obj c fs => obtain ⟨dx, vs, h1, h2, h3⟩ := h; rw [h1]; unfold LamX.CodeO; simp
  | _ => exact h.elim
/-- a function's code object and name -/
def codeOf (o : Obj) : Option (Addr × Str) := match o.data with
  | .func fd => (match fd.code with
    | .ref c => some (c, fd.qualname)
    | _ => none)
  | _ => none
/-- the tables that are tracked, and the code objects of the tracked lambdas -/
structure TabsL (T : List (Addr × Str)) (H : Hp) : Prop where
  tabs : LamX.Tabs T H
  code : ∀ a o c q, H a = some (ObjX a o) → codeOf o = some (c, q) → H c = some (LamX.CodeO c q)
  only : ∀ a ps, H a = some (.tbl ps) → ∃ p ∈ T, p.1 = a
/-- neither a table nor a code object -/
def NC (H : Hp) (p : Addr) : Prop := (∀ ps, H p ≠ some (.tbl ps)) ∧ ∀ q, H p ≠ some (LamX.CodeO p q)
theorem NC.none {H : Hp} {p : Addr} (h : H p = .none) : NC H p := ⟨fun ps z => (by rw [h] at z; cases z), fun q z => (by rw [h] at z; cases z)⟩
theorem NC.lst {H : Hp} {p : Addr} {xs : List V} (h : H p = some (.lst xs)) : NC H p := ⟨fun ps z => (by rw [h] at z; cases z), fun q z => (by rw [h] at z; unfold LamX.CodeO at z; cases z)⟩
theorem NC.own {K : PySem.W.Frag} {kap : Kp} {F H : Hp} {p : Addr} {d : D} (h : Own K kap F H p d) : NC H p := ⟨h.notTbl, h.notCode⟩
/-- no lambda, no table -/
def NL (o : HO) (a : Addr) : Prop := (∀ ob, o = ObjX a ob → codeOf ob = none) ∧ ∀ ps, o ≠ .tbl ps
theorem NL.ext {o : HO} {a : Addr} (h1 : ∀ φ, o ≠ .ext φ) (h2 : ∀ ps, o ≠ .tbl ps) : NL o a := ⟨fun ob z => by unfold ObjX at z; exact absurd z (h1 _), h2⟩
theorem exO_inj {a : Addr} {o o' : Obj} (h : exO a o = ObjX a o') (hd : ∃ es ep, o.data = .dict es ep) : o' = o := by
  unfold exO ObjX at h
  injection h with h
  obtain ⟨g, hg⟩ := heap_at a o (live_dict hd)
  have e : g.get? a = some o' := cast (congrFun h g) hg
  rw [hg] at e
  exact (Option.some.inj e).symm
theorem NL.dict {a : Addr} {o : Obj} (hd : ∃ es ep, o.data = .dict es ep) : NL (exO a o) a := ⟨fun ob z => by
  rw [exO_inj z hd]
  obtain ⟨es, ep, e⟩ := hd
  unfold codeOf
  rw [e], fun ps z => by unfold exO at z; cases z⟩
theorem Own.nl {K : PySem.W.Frag} {kap : Kp} {F H : Hp} {p : Addr} {d : D} {o : HO} (h : Own K kap F (upd H p o) p d) : NL o p := by
  cases d with
  | lst ds => obtain ⟨vs, h1, h2⟩ := h; rw [upd_same] at h1; cases h1; exact .ext (by simp) (by simp)
  | dk ds => obtain ⟨vs, h1, h2, h3⟩ := h; rw [upd_same] at h1; cases h1; exact .ext (by simp) (by simp)
  | dn ds => obtain ⟨o, xs, vs, h1, h2, _⟩ := h; rw [upd_same] at h1; cases h1; exact .dict (let ⟨es, ep, e, _⟩ := h2.dat; ⟨es, ep, e⟩)
  | obj c fs => obtain ⟨dx, vs, h1, h2, h3⟩ := h; rw [upd_same] at h1; cases h1; exact .ext (by simp) (by simp)
  | _ => exact h.elim
theorem TabsL.upd {T : List (Addr × Str)} {H : Hp} {p : Addr} {o : HO} (t : TabsL T H) (h : NC H p) (n : NL o p) : TabsL T (L2.upd H p o) where
  tabs := fun r hr => by
    obtain ⟨ps, e1, e2, e3⟩ := t.tabs r hr
    refine ⟨ps, by rw [upd_ne fun z => h.1 ps (by rw [← z]; exact e1)]; exact e1, e2, fun pos cv hc => ?_⟩
    obtain ⟨c, g1, g2⟩ := e3 pos cv hc
    exact ⟨c, g1, by rw [upd_ne fun z => h.2 r.2 (by rw [← z]; exact g2)]; exact g2⟩
  code := fun a ob c q e1 e2 => by
    by_cases z : a = p
    · subst z
      rw [upd_same] at e1
      rw [n.1 ob (Option.some.inj e1)] at e2
      cases e2
    · rw [upd_ne z] at e1
      have := t.code a ob c q e1 e2
      rw [upd_ne fun w => h.2 q (by rw [← w]; exact this)]
      exact this
  only := fun a ps e => by
    by_cases z : a = p
    · subst z
      rw [upd_same] at e
      exact absurd (Option.some.inj e) (n.2 ps)
    · rw [upd_ne z] at e
      exact t.only a ps e
theorem Own.tabs {K : PySem.W.Frag} {kap : Kp} {F H : Hp} {p : Addr} {d d' : D} {T : List (Addr × Str)} {o : HO} (h : Own K kap F H p d) (h' : Own K kap F (L2.upd H p o) p d') (t : TabsL T H) : TabsL T (L2.upd H p o) := t.upd (.own h) h'.nl
/-! ### the state: slots -/
inductive Sl where
  | no | va (d : D) | ow (d : D) | pn (d : D) | ex (c : Nat) (fs : List (Str × D))
  | cn (d : D) | fl (d : D) (f : Str) | ll (d : D) (g : Nat)
abbrev DEnv := List Sl
def Sl.owd : Sl → Option D
  | .ow d => some d
  | .pn d => some d
  | _ => none
/-- ghosts: lists that stand within an own thing -/
def Sl.ghd : Sl → Option D
  | .fl d _ => some d
  | .ll d _ => some d
  | _ => none
def Sl.hld : Sl → Option D
  | .ow d => some d
  | .pn d => some d
  | .fl d _ => some d
  | .ll d _ => some d
  | _ => none
theorem Sl.hld_of {s : Sl} {d : D} (h : s.owd = some d ∨ s.ghd = some d) : s.hld = some d := by
  cases s <;> rcases h with h | h <;> first | exact h | cases h
theorem Sl.of_hld {s : Sl} {d : D} (h : s.hld = some d) : s.owd = some d ∨ s.ghd = some d := by
  cases s <;> first | exact .inl h | exact .inr h | cases h
def Sl.plain : Sl → Bool
  | .cn _ => false
  | .fl _ _ => false
  | .ll _ _ => false
  | _ => true
theorem Sl.plain_gh {s : Sl} (h : s.plain = true) : s.ghd = none ∧ s.hld = s.owd := by
  cases s <;> first | exact ⟨rfl, rfl⟩ | cases h
def Sl.dat : Sl → Option D
  | .va d => some d
  | .ow d => some d
  | .pn d => some d
  | .cn d => some d
  | _ => none
abbrev Own? := Nat → Option Addr
/-- the exception that a suite holds: its place, class and dict -/
abbrev Xi := Option ((Addr × Value × Option Addr) ⊕ Addr)
/-- an exception's dict -/
def XR (K : PySem.W.Frag) (kap : Kp) (F : Hp) (d : Option Addr) (fs : List (Str × D)) : Prop := match d with
  | none => fs = []
  | some dd => ∃ vs : List (Str × V), F dd = some (HO.xd vs) ∧ vs.map (·.1) = fs.map (·.1) ∧ Reps K kap F (vs.map (·.2)) (fs.map (·.2))
theorem XR.mono {K : PySem.W.Frag} {kap : Kp} {F F' : Hp} (e : Same F F') {d : Option Addr} {fs : List (Str × D)} (h : XR K kap F d fs) : XR K kap F' d fs := by
  cases d with
  | none => exact h
  | some dd => obtain ⟨vs, h1, h2, h3⟩ := h; exact ⟨vs, e _ _ h1, h2, h3.mono e⟩
/-- how a ghost stands in its host -/
def Lnk (xi : Xi) (F H : Hp) (de : DEnv) (O : Own?) (p : Addr) : Sl → Prop
  | .fl _ f => ∃ (me C dx : Addr) (vs : List (Str × V)), xi = some (.inr me) ∧ F me = some (.ins C dx vs) ∧ vs.lookup f = some (.ref p)
  | .ll _ g => ∀ d f, de[g]? = some (Sl.fl d f) → ∃ (q : Addr) (vs : List V), O g = some q ∧ H q = some (.lst (vs ++ [V.ref p]))
  | _ => True
structure RS (K : PySem.W.Frag) (kap : Kp) (xi : Xi) (F H : Hp) (sg : St) (de : DEnv) (O : Own?) : Prop where
  len : sg.length = de.length
  va : ∀ (i : Nat) (d : D), de[i]? = some (Sl.va d) → ∃ v, sg[i]? = some (some v) ∧ Rep K kap F v d
  ow : ∀ (i : Nat) (s : Sl) (d : D), de[i]? = some s → s.owd = some d → ∃ p, O i = some p ∧ sg[i]? = some (some (V.ref p)) ∧ F p = none ∧ Own K kap F H p d
  ex : ∀ (i : Nat) (c : Nat) (fs : List (Str × D)), de[i]? = some (Sl.ex c fs) → ∃ (a : Addr) (d : Option Addr), xi = some (.inl (a, Value.ref (kap c), d)) ∧ sg[i]? = some (some (V.ref a)) ∧ XR K kap F d fs
  onl : ∀ (i : Nat) (p : Addr), O i = some p → ∃ (s : Sl) (d : D), de[i]? = some s ∧ s.hld = some d
  inj : ∀ i j p, O i = some p → O j = some p → i = j
  sub : Same F H
  nt : NTF F
  tab : TabsL kap.tab H
  cn : ∀ (i : Nat) (d : D), de[i]? = some (Sl.cn d) → ∃ me, xi = some (.inr me) ∧ sg[i]? = some (some (V.ref me)) ∧ Rep K kap F (.ref me) d
  gh : ∀ (i : Nat) (s : Sl) (d : D), de[i]? = some s → s.ghd = some d → ∃ p, O i = some p ∧ F p = none ∧ Own K kap F H p d ∧ Lnk xi F H de O p s
structure Go (F H : Hp) (de : DEnv) (O : Own?) (F' H' : Hp) (de' : DEnv) (O' : Own?) : Prop where
  ex : Same F F'
  keep : ∀ a o, H a = some o → (∀ ps, o ≠ .tbl ps) → (∀ i, O i ≠ some a) → H' a = some o
  new : ∀ i a, O' i = some a → (∃ j, O j = some a) ∨ H a = none
  dom : ∀ a, H' a = none → H a = none
  fnew : ∀ a, F' a ≠ none → F a ≠ none ∨ H a = none ∨ ∃ i, O i = some a
  pin : ∀ (i : Nat) (d' : D), de'[i]? = some (Sl.pn d') → O' i = O i ∧ ∃ d, de[i]? = some (Sl.pn d)
theorem Go.refl {F H : Hp} {de : DEnv} {O : Own?} : Go F H de O F H de O :=
  ⟨Same.refl F, fun _ _ h _ _ => h, fun i a h => .inl ⟨i, h⟩, fun _ h => h, fun _ h => .inl h, fun _ d h => ⟨rfl, d, h⟩⟩
theorem Go.trans {F H F1 H1 F2 H2 : Hp} {de de1 de2 : DEnv} {O O1 O2 : Own?} (a : Go F H de O F1 H1 de1 O1) (b : Go F1 H1 de1 O1 F2 H2 de2 O2) : Go F H de O F2 H2 de2 O2 where
  ex := a.ex.trans b.ex
  keep := fun x o h t n => b.keep x o (a.keep x o h t n) t fun i e => by
    rcases a.new i x e with ⟨j, q⟩ | q
    · exact n j q
    · rw [h] at q; cases q
  new := fun i x e => by
    rcases b.new i x e with ⟨j, q⟩ | q
    · exact a.new j x q
    · exact .inr (a.dom x q)
  dom := fun x e => a.dom x (b.dom x e)
  fnew := fun x e => by
    rcases b.fnew x e with q | q | ⟨i, q⟩
    · exact a.fnew x q
    · exact .inr (.inl (a.dom x q))
    · rcases a.new i x q with q | q
      · exact .inr (.inr q)
      · exact .inr (.inl q)
  pin := fun i d e => by
    obtain ⟨e1, d1, q1⟩ := b.pin i d e
    obtain ⟨e2, d2, q2⟩ := a.pin i d1 q1
    exact ⟨e1.trans e2, d2, q2⟩
/-- only new objects were laid (a def's table may grow) -/
structure New (T : List (Addr × Str)) (F H F' H' : Hp) : Prop where
  f : Same F F'
  h : SameT H H'
  fnew : ∀ a, F' a ≠ none → F a ≠ none ∨ H a = none
  dom : ∀ a, H' a = none → H a = none
  tab : TabsL T H → TabsL T H'
  nt : NTF F → NTF F'
/-- a ghost's link: frozen parts grow, the host's object stays -/
theorem Lnk.mono {xi : Xi} {F F' H H' : Hp} {de de' : DEnv} {O O' : Own?} {p : Addr} {s : Sl} (h : Lnk xi F H de O p s) (e : Same F F') (k : ∀ g d f q, de[g]? = some (Sl.fl d f) → O g = some q → ∀ u, H q = some u → (∀ ps, u ≠ .tbl ps) → H' q = some u)
    (hd : ∀ g d f, de'[g]? = some (Sl.fl d f) → de[g]? = some (Sl.fl d f) ∧ O' g = O g := by exact fun _ _ _ h => ⟨h, rfl⟩) : Lnk xi F' H' de' O' p s := by
  cases s with
  | fl d f => obtain ⟨me, C, dx, vs, h1, h2, h3⟩ := h; exact ⟨me, C, dx, vs, h1, e _ _ h2, h3⟩
  | ll d g =>
    intro d' f' h'
    obtain ⟨e1, e2⟩ := hd g d' f' h'
    obtain ⟨q, vs, h1, h2⟩ := h d' f' e1
    exact ⟨q, vs, e2.trans h1, k g d' f' q e1 h1 _ h2 (by simp)⟩
  | _ => trivial
section
variable {T : List (Addr × Str)}
theorem New.refl {F H : Hp} : New T F H F H := ⟨Same.refl F, fun _ _ h _ => h, fun _ h => .inl h, fun _ h => h, fun h => h, fun h => h⟩
theorem New.trans {F H F1 H1 F2 H2 : Hp} (a : New T F H F1 H1) (b : New T F1 H1 F2 H2) : New T F H F2 H2 :=
  ⟨a.f.trans b.f, fun x o h n => b.h x o (a.h x o h n) n, fun x e => by
    rcases b.fnew x e with q | q
    · exact a.fnew x q
    · exact .inr (a.dom x q), fun x h => a.dom x (b.dom x h), fun h => b.tab (a.tab h), fun h => b.nt (a.nt h)⟩
/-- nothing tracked is lost -/
theorem New.ofSame {F H F' H' : Hp} (f : Same F F') (h : Same H H') (fnew : ∀ a, F' a ≠ none → F a ≠ none ∨ H a = none) (tab : TabsL T H → TabsL T H') (nt : NTF F → NTF F') : New T F H F' H' :=
  ⟨f, .of h, fnew, fun _ e => h.free e, tab, nt⟩
theorem New.one {F H : Hp} {p : Addr} {o : HO} (sub : Same F H) (h : H p = none) (ho : NL o p := by exact .ext (by simp) (by simp)) : New T F H (upd F p o) (upd H p o) ∧ Same (upd F p o) (upd H p o) := by
  have hf : F p = none := sub.free h
  refine ⟨.ofSame (same_upd hf) (same_upd h) (fun a e => ?_) (fun t => t.upd (.none h) ho) fun n => n.upd ho.2, fun a u e => ?_⟩
  · by_cases q : a = p
    · subst q; exact .inr h
    · rw [upd_ne q] at e; exact .inl e
  · by_cases q : a = p
    · subst q; rw [upd_same] at e ⊢; exact e
    · rw [upd_ne q] at e ⊢; exact sub a u e
theorem New.free {F H F' H' : Hp} (n : New T F H F' H') {p : Addr} (hf : F p = none) (hh : H p ≠ none) : F' p = none := by
  cases e : F' p with
  | none => rfl
  | some o =>
    rcases n.fnew p (by rw [e]; simp) with q | q
    · exact absurd hf q
    · exact absurd q hh
end
/-- new objects: the state stands -/
theorem RS.new {K : PySem.W.Frag} {kap : Kp} {xi : Xi} {F H F' H' : Hp} {sg : St} {de : DEnv} {O : Own?} (R : RS K kap xi F H sg de O) (n : New kap.tab F H F' H') (sub : Same F' H') : RS K kap xi F' H' sg de O where
  len := R.len
  va := fun i d e => by
    obtain ⟨v, h1, h2⟩ := R.va i d e
    exact ⟨v, h1, h2.mono n.f⟩
  ow := fun i s d e h => by
    obtain ⟨p, h1, h2, h3, h4⟩ := R.ow i s d e h
    obtain ⟨o, ho⟩ := h4.some
    exact ⟨p, h1, h2, n.free h3 (by rw [ho]; simp), h4.mono n.f (by rw [ho, n.h p o ho fun ps z => h4.notTbl ps (by rw [ho, z])])⟩
  ex := fun i c fs e => by
    obtain ⟨a, d, h1, h2, h3⟩ := R.ex i c fs e
    exact ⟨a, d, h1, h2, h3.mono n.f⟩
  onl := R.onl
  inj := R.inj
  sub := sub
  nt := n.nt R.nt
  tab := n.tab R.tab
  cn := fun i d e => by
    obtain ⟨me, h1, h2, h3⟩ := R.cn i d e
    exact ⟨me, h1, h2, h3.mono n.f⟩
  gh := fun i s d e h => by
    obtain ⟨p, h1, h3, h4, h5⟩ := R.gh i s d e h
    obtain ⟨o, ho⟩ := h4.some
    exact ⟨p, h1, n.free h3 (by rw [ho]; simp), h4.mono n.f (by rw [ho, n.h p o ho fun ps z => h4.notTbl ps (by rw [ho, z])]), h5.mono n.f fun g d f q _ hq u hu nu => n.h q u hu nu⟩
structure NX (kap : Kp) (F H : Hp) : Prop where
  nt : NTF F
  tab : TabsL kap.tab H
theorem RS.nx {K : PySem.W.Frag} {kap : Kp} {xi : Xi} {F H : Hp} {sg : St} {de : DEnv} {O : Own?} (R : RS K kap xi F H sg de O) : NX kap F H := ⟨R.nt, R.tab⟩
/-- ghosts that nobody touched -/
theorem RS.ghs {K : PySem.W.Frag} {kap : Kp} {xi : Xi} {F H F' H' : Hp} {sg : St} {de de' : DEnv} {O O' : Own?} (R : RS K kap xi F H sg de O) (e : Same F F') (hF : ∀ i s d p, de[i]? = some s → s.ghd = some d → O i = some p → F' p = none ∧ H' p = H p)
    (hde : ∀ i s d, de'[i]? = some s → s.ghd = some d → de[i]? = some s ∧ O' i = O i) : ∀ (i : Nat) (s : Sl) (d : D), de'[i]? = some s → s.ghd = some d → ∃ p, O' i = some p ∧ F' p = none ∧ Own K kap F' H' p d ∧ Lnk xi F' H' de' O' p s := by
  intro i s d h1 h2
  obtain ⟨g1, g2⟩ := hde i s d h1 h2
  obtain ⟨p, q1, q2, q3, q4⟩ := R.gh i s d g1 h2
  obtain ⟨f1, f2⟩ := hF i s d p g1 h2 q1
  refine ⟨p, g2.trans q1, f1, q3.mono e f2, q4.mono e (fun g d f q hg hq u hu _ => ?_) fun g d f hg => hde g _ d hg rfl⟩
  rw [(hF g _ d q hg rfl hq).2]
  exact hu
theorem New.go {F H F' H' : Hp} {de : DEnv} {O : Own?} {T : List (Addr × Str)} (n : New T F H F' H') : Go F H de O F' H' de O where
  ex := n.f
  keep := fun a o h t _ => n.h a o h t
  new := fun i a h => .inl ⟨i, h⟩
  dom := n.dom
  fnew := fun a h => (n.fnew a h).elim .inl fun q => .inr (.inl q)
  pin := fun _ d h => ⟨rfl, d, h⟩
/-- an owned slot is frozen -/
theorem RS.freeze {K : PySem.W.Frag} {kap : Kp} {xi : Xi} {F H : Hp} {sg : St} {de : DEnv} {O : Own?} {i : Nat} {d : D} (R : RS K kap xi F H sg de O) (hi : de[i]? = some (Sl.ow d)) :
    ∃ F' O' v, RS K kap xi F' H sg (de.set i (Sl.va d)) O' ∧ Go F H de O F' H (de.set i (Sl.va d)) O' ∧ sg[i]? = some (some v) ∧ Rep K kap F' v d := by
  obtain ⟨p, hO, hs, hf, hw⟩ := R.ow i _ d hi rfl
  obtain ⟨o, ho, hr⟩ := hw.freeze hf
  have il : i < de.length := (List.getElem?_eq_some_iff.mp hi).1
  have e1 : Same F (upd F p o) := same_upd hf
  have get : ∀ (j : Nat) (s : Sl), (de.set i (Sl.va d))[j]? = some s → (j = i ∧ s = .va d) ∨ (j ≠ i ∧ de[j]? = some s) := fun j s e => by
    by_cases q : j = i
    · subst q
      rw [List.getElem?_set_self il] at e
      cases e
      exact .inl ⟨rfl, rfl⟩
    · rw [List.getElem?_set_ne (Ne.symm q)] at e
      exact .inr ⟨q, e⟩
  refine ⟨upd F p o, fun j => if j = i then none else O j, .ref p, ⟨by rw [List.length_set]; exact R.len, fun j e h => ?_, fun j s e h1 h2 => ?_, fun j c fs h => ?_, fun j q h => ?_, fun j k q h1 h2 => ?_, fun a u h => ?_, R.nt.upd fun ps z => hw.notTbl ps (by rw [ho, z]), R.tab, fun j e h => ?_, fun j s e h1 h2 => ?_⟩, ⟨e1, fun _ _ h _ _ => h, fun j a h => ?_, fun _ h => h, fun a h => ?_, fun j e h => ?_⟩, hs, hr⟩
  · rcases get j _ h with ⟨rfl, q⟩ | ⟨q, h⟩
    · cases q
      exact ⟨_, hs, hr⟩
    · obtain ⟨v, h1, h2⟩ := R.va j e h
      exact ⟨v, h1, h2.mono e1⟩
  · rcases get j _ h1 with ⟨rfl, q⟩ | ⟨q, h1⟩
    · subst q; cases h2
    · obtain ⟨p', g1, g2, g3, g4⟩ := R.ow j s e h1 h2
      refine ⟨p', by simp [q, g1], g2, ?_, g4.mono e1 rfl⟩
      have : p' ≠ p := fun z => q (R.inj j i p (by rw [g1, z]) hO)
      rw [upd_ne this]; exact g3
  · rcases get j _ h with ⟨rfl, q⟩ | ⟨q, h⟩
    · cases q
    · obtain ⟨a, d, h1, h2, h3⟩ := R.ex j c fs h
      exact ⟨a, d, h1, h2, h3.mono e1⟩
  · by_cases z : j = i
    · simp [z] at h
    · simp only [z, if_false] at h
      obtain ⟨s, e, h1, h2⟩ := R.onl j q h
      exact ⟨s, e, by rw [List.getElem?_set_ne (Ne.symm z)]; exact h1, h2⟩
  · by_cases z : j = i
    · simp [z] at h1
    · by_cases z2 : k = i
      · simp [z2] at h2
      · simp only [z, z2, if_false] at h1 h2
        exact R.inj j k q h1 h2
  · by_cases z : a = p
    · subst z; rw [upd_same] at h; cases h; exact ho
    · rw [upd_ne z] at h; exact R.sub a u h
  · rcases get j _ h with ⟨rfl, q⟩ | ⟨q, h⟩
    · cases q
    · obtain ⟨me, h1, h2, h3⟩ := R.cn j e h
      exact ⟨me, h1, h2, h3.mono e1⟩
  · rcases get j _ h1 with ⟨rfl, q⟩ | ⟨q, h1⟩
    · subst q; cases h2
    · obtain ⟨p', g1, g3, g4, g5⟩ := R.gh j s e h1 h2
      refine ⟨p', by simp [q, g1], ?_, g4.mono e1 rfl, g5.mono e1 (fun _ _ _ _ _ _ _ h _ => h) fun g d f hg => ?_⟩
      · have : p' ≠ p := fun z => q (R.inj j i p (by rw [g1, z]) hO)
        rw [upd_ne this]; exact g3
      · rcases get g _ hg with ⟨_, z⟩ | ⟨z, hg⟩
        · cases z
        · exact ⟨hg, by simp [z]⟩
  · by_cases z : j = i
    · simp [z] at h
    · simp only [z, if_false] at h
      exact .inl ⟨j, h⟩
  · by_cases z : a = p
    · subst z; exact .inr (.inr ⟨i, hO⟩)
    · rw [upd_ne z] at h; exact .inl h
  · rcases get j _ h with ⟨rfl, q⟩ | ⟨q, h⟩
    · cases q
    · exact ⟨by simp [q], e, h⟩
/-! ### results -/
inductive Rs (α : Type) where
  | ok (a : α) (de : DEnv) | ex (c : Nat) (fs : List (Str × D)) (de : DEnv) | bad
def Rs.bind {α β : Type} : Rs α → (α → DEnv → Rs β) → Rs β
  | .ok a de, f => f a de
  | .ex c fs de, _ => .ex c fs de
  | .bad, _ => .bad
inductive Ot where
  | nx (de : DEnv) | ret (d : D) (de : DEnv) | retF (d : D) (de : DEnv) | brk (de : DEnv) | ct (de : DEnv) | ex (c : Nat) (fs : List (Str × D)) (de : DEnv) | bad
def Rs.out {α : Type} : Rs α → (α → DEnv → Ot) → Ot
  | .ok a de, f => f a de
  | .ex c fs de, _ => .ex c fs de
  | .bad, _ => .bad
def Ot.andThen : Ot → (DEnv → Ot) → Ot
  | .nx de, f => f de
  | o, _ => o
/-- how an answer is told: by what it is, and by where its own object (if it is nobody's yet) comes from -/
structure Rel (β α : Type) where
  rel : St → Hp → Hp → Own? → β → α → Prop
  org : β → Addr → Prop := fun _ _ => False
section
variable (K : PySem.W.Frag) (kap : Kp)
/-- what is wanted of an exception here -/
def PX (xi : Xi) (F H : Hp) (de : DEnv) (O : Own?) (W : WX) (c : Nat) (fs : List (Str × D)) (de' : DEnv) : Prop :=
  ∀ F' H' sg' O' d, RS K kap xi F' H' sg' de' O' → Go F H de O F' H' de' O' → XR K kap F' d fs → W (.ref (kap c)) d sg' H'
def PE1 {α β : Type} (Rl : Rel β α) (xi : Xi) (F H : Hp) (sg : St) (de : DEnv) (O : Own?) (W : WX) (Q : β → Hp → Prop) : Rs α → Prop
  | .ok a de' => ∀ v F' H' O', RS K kap xi F' H' sg de' O' → Go F H de O F' H' de' O' → Rl.rel sg F' H' O' v a → (∀ p, Rl.org v p → H p = none ∨ ∃ i, O i = some p) → Q v H'
  | .ex c fs de' => PX K kap xi F H de O W c fs de'
  | .bad => False
/-- a fresh object: nobody's yet -/
def Frs (F H : Hp) (O : Own?) (v : V) (d : D) : Prop := ∃ p, v = .ref p ∧ F p = none ∧ Own K kap F H p d ∧ ∀ i, O i ≠ some p
def PS1 (xi : Xi) (F H : Hp) (de : DEnv) (O : Own?) (W : WX) (Dn : Ends) : Ot → Prop
  | .nx de' => ∀ F' H' sg' O', RS K kap xi F' H' sg' de' O' → Go F H de O F' H' de' O' → Dn.nx sg' H'
  | .ret d de' => ∀ v F' H' sg' O', RS K kap xi F' H' sg' de' O' → Go F H de O F' H' de' O' → Rep K kap F' v d → Dn.rt v H'
  | .retF d de' => ∀ v F' H' sg' O', RS K kap xi F' H' sg' de' O' → Go F H de O F' H' de' O' → Frs K kap F' H' O' v d → (∀ p, v = .ref p → H p = none ∨ ∃ i, O i = some p) → Dn.rt v H'
  | .brk de' => ∀ F' H' sg' O', RS K kap xi F' H' sg' de' O' → Go F H de O F' H' de' O' → Dn.bk sg' H'
  | .ct de' => ∀ F' H' sg' O', RS K kap xi F' H' sg' de' O' → Go F H de O F' H' de' O' → Dn.ct sg' H'
  | .ex c fs de' => PX K kap xi F H de O W c fs de'
  | .bad => False
end
section
variable {K : PySem.W.Frag} {kap : Kp} {xi : Xi} {F H F1 H1 : Hp} {sg : St} {de de1 : DEnv} {O O1 : Own?} {W : WX}
theorem PX.shift {c : Nat} {fs : List (Str × D)} {de' : DEnv} (g : Go F H de O F1 H1 de1 O1) (h : PX K kap xi F H de O W c fs de') : PX K kap xi F1 H1 de1 O1 W c fs de' :=
  fun F' H' sg' O' d R' g' r => h F' H' sg' O' d R' (g.trans g') r
theorem PE1.shift {α β : Type} {Rl : Rel β α} {Q : β → Hp → Prop} {r : Rs α} (g : Go F H de O F1 H1 de1 O1) (h : PE1 K kap Rl xi F H sg de O W Q r) : PE1 K kap Rl xi F1 H1 sg de1 O1 W Q r := by
  cases r with
  | ok a de' => exact fun v F' H' O' R' g' q n => h v F' H' O' R' (g.trans g') q fun p e => (n p e).elim (fun q => .inl (g.dom _ q)) fun ⟨i, q⟩ => (g.new i p q).symm
  | ex c fs de' => exact PX.shift g h
  | bad => exact h
theorem PS1.shift {Dn : Ends} {o : Ot} (g : Go F H de O F1 H1 de1 O1) (h : PS1 K kap xi F H de O W Dn o) : PS1 K kap xi F1 H1 de1 O1 W Dn o := by
  cases o with
  | nx de' => exact fun F' H' sg' O' R' g' => h F' H' sg' O' R' (g.trans g')
  | ret d de' => exact fun v F' H' sg' O' R' g' r => h v F' H' sg' O' R' (g.trans g') r
  | retF d de' => exact fun v F' H' sg' O' R' g' r n => h v F' H' sg' O' R' (g.trans g') r fun p e => (n p e).elim (fun q => .inl (g.dom _ q)) fun ⟨i, q⟩ => (g.new i p q).symm
  | brk de' => exact fun F' H' sg' O' R' g' => h F' H' sg' O' R' (g.trans g')
  | ct de' => exact fun F' H' sg' O' R' g' => h F' H' sg' O' R' (g.trans g')
  | ex c fs de' => exact PX.shift g h
  | bad => exact h
end
/-! ### soundness -/
section
variable (K : PySem.W.Frag) (kap : Kp) (xi : Xi)
/-- t (what is read off a syntax) does what ev says -/
def Snd {α β : Type} (Rl : Rel β α) (t : WX → St → Hp → (β → Hp → Prop) → Prop) (ev : DEnv → Rs α) : Prop :=
  ∀ W F H sg de O Q, RS K kap xi F H sg de O → PE1 K kap Rl xi F H sg de O W Q (ev de) → t W sg H Q
def RlE : Rel V D := { rel := fun _ F _ _ v d => Rep K kap F v d }
def RlA : Rel (List V) (List D) := { rel := fun _ F _ _ v d => Reps K kap F v d }
def RlF : Rel V D := { rel := fun _ F H O v d => Frs K kap F H O v d, org := fun v p => v = .ref p }
def RlQ (α : Type) : Rel α α := { rel := fun _ _ _ _ b c => b = c }
abbrev RlB : Rel Bool Bool := RlQ Bool
def SndS (t : WX → TS) (ev : DEnv → Ot) : Prop :=
  ∀ W F H sg de O Dn, RS K kap xi F H sg de O → PS1 K kap xi F H de O W Dn (ev de) → t W Dn sg H
end
section
variable {K : PySem.W.Frag} {kap : Kp} {xi : Xi} {F H : Hp} {sg : St} {de : DEnv} {O : Own?} {W : WX}
/-- one part, then the rest -/
theorem Snd.bind {α β γ δ : Type} {Ra : Rel β α} {Rl : Rel δ γ} {t : WX → St → Hp → (β → Hp → Prop) → Prop} {ev : DEnv → Rs α} {g : α → DEnv → Rs γ} {Q : δ → Hp → Prop} {k : β → Hp → Prop}
    (h : Snd K kap xi Ra t ev) (R : RS K kap xi F H sg de O) (hp : PE1 K kap Rl xi F H sg de O W Q ((ev de).bind g))
    (hk : ∀ v a F1 H1 de1 O1, RS K kap xi F1 H1 sg de1 O1 → Go F H de O F1 H1 de1 O1 → Ra.rel sg F1 H1 O1 v a → (∀ p, Ra.org v p → H p = none ∨ ∃ i, O i = some p) → PE1 K kap Rl xi F1 H1 sg de1 O1 W Q (g a de1) → k v H1) : t W sg H k := by
  refine h W F H sg de O k R ?_
  cases e : ev de with
  | ok a de1 =>
    rw [e] at hp
    exact fun v F1 H1 O1 R1 g1 r1 n1 => hk v a F1 H1 de1 O1 R1 g1 r1 n1 (hp.shift g1)
  | ex c fs de1 => rw [e] at hp; exact hp
  | bad => rw [e] at hp; exact hp
theorem Snd.out {α β : Type} {Ra : Rel β α} {t : WX → St → Hp → (β → Hp → Prop) → Prop} {ev : DEnv → Rs α} {g : α → DEnv → Ot} {Dn : Ends} {k : β → Hp → Prop}
    (h : Snd K kap xi Ra t ev) (R : RS K kap xi F H sg de O) (hp : PS1 K kap xi F H de O W Dn ((ev de).out g))
    (hk : ∀ v a F1 H1 de1 O1, RS K kap xi F1 H1 sg de1 O1 → Go F H de O F1 H1 de1 O1 → Ra.rel sg F1 H1 O1 v a → (∀ p, Ra.org v p → H p = none ∨ ∃ i, O i = some p) → PS1 K kap xi F1 H1 de1 O1 W Dn (g a de1) → k v H1) : t W sg H k := by
  refine h W F H sg de O k R ?_
  cases e : ev de with
  | ok a de1 =>
    rw [e] at hp
    exact fun v F1 H1 O1 R1 g1 r1 n1 => hk v a F1 H1 de1 O1 R1 g1 r1 n1 (hp.shift g1)
  | ex c fs de1 => rw [e] at hp; exact hp
  | bad => rw [e] at hp; exact hp
/-- the end of an expression: a value, new objects at most -/
theorem PE1.done {α β : Type} {Rl : Rel β α} {Q : β → Hp → Prop} {a : α} {v : β} {F' H' : Hp} (R : RS K kap xi F H sg de O) (hp : PE1 K kap Rl xi F H sg de O W Q (.ok a de)) (n : New kap.tab F H F' H') (sub : Same F' H') (r : Rl.rel sg F' H' O v a) (o : ∀ p, Rl.org v p → H p = none := by exact fun _ h => h.elim) : Q v H' :=
  hp v F' H' O (R.new n sub) n.go r fun p h => .inl (o p h)
end
end DL
set_option maxRecDepth 100000
set_option maxHeartbeats 2000000
set_option autoImplicit false
namespace DL
open PySem L2
/-! ### borrowed operands -/
/-- read: frozen, or owned as it stands -/
def RB (K : PySem.W.Frag) (kap : Kp) (F H : Hp) (v : V) (d : D) : Prop := Rep K kap F v d ∨ ∃ p, v = .ref p ∧ F p = none ∧ Own K kap F H p d
theorem RB.rep {K : PySem.W.Frag} {kap : Kp} {F H : Hp} {v : V} {d : D} (e : Same F H) (h : RB K kap F H v d) : Rep K kap H v d := by
  rcases h with h | ⟨p, rfl, _, h⟩
  · exact h.mono e
  · exact h.rep e
theorem RB.int {K : PySem.W.Frag} {kap : Kp} {F H : Hp} {v : V} {i : Int} (h : RB K kap F H v (.int i)) : v = .int i := by
  rcases h with h | ⟨p, rfl, _, h⟩
  · cases h; rfl
  · exact h.elim
theorem RB.lst {K : PySem.W.Frag} {kap : Kp} {F H : Hp} {v : V} {ds : List D} (e : Same F H) (h : RB K kap F H v (.lst ds)) : ∃ a vs, v = .ref a ∧ H a = some (.lst vs) ∧ Reps K kap F vs ds := by
  rcases h with h | ⟨p, rfl, _, vs, h1, h2⟩
  · cases h with
    | lst h r => exact ⟨_, _, rfl, e _ _ h, r⟩
  · exact ⟨p, vs, rfl, h1, h2⟩
theorem RB.scr {K : PySem.W.Frag} {kap : Kp} {F H : Hp} {v : V} {ds : List D} (h : RB K kap F H v (.scr ds)) : ∃ a vs, v = .ref a ∧ SqL K F a vs ∧ Reps K kap F vs ds := by
  rcases h with h | ⟨p, rfl, _, h⟩
  · cases h with
    | scr h r => exact ⟨_, _, rfl, h, r⟩
  · exact h.elim
theorem RB.str {K : PySem.W.Frag} {kap : Kp} {F H : Hp} {v : V} {i : Str} (h : RB K kap F H v (.str i)) : v = .str i := by
  rcases h with h | ⟨p, rfl, _, h⟩
  · cases h; rfl
  · exact h.elim
theorem RB.bl {K : PySem.W.Frag} {kap : Kp} {F H : Hp} {v : V} {i : Bool} (h : RB K kap F H v (.bl i)) : v = .bl i := by
  rcases h with h | ⟨p, rfl, _, h⟩
  · cases h; rfl
  · exact h.elim
theorem RB.non {K : PySem.W.Frag} {kap : Kp} {F H : Hp} {v : V} (h : RB K kap F H v .non) : v = .non := by
  rcases h with h | ⟨p, rfl, _, h⟩
  · cases h; rfl
  · exact h.elim
theorem RB.dk {K : PySem.W.Frag} {kap : Kp} {F H : Hp} {v : V} {ds : List (Key × D)} (e : Same F H) (h : RB K kap F H v (.dk ds)) : ∃ (a : Addr) (kvs : List (Key × V)), v = .ref a ∧ H a = some (.dK kvs) ∧ kvs.map (·.1) = ds.map (·.1) ∧ Reps K kap F (kvs.map (·.2)) (ds.map (·.2)) := by
  rcases h with h | ⟨p, rfl, _, kvs, h1, h2, h3⟩
  · cases h with
    | dk h n r => exact ⟨_, _, rfl, e _ _ h, n, r⟩
  · exact ⟨p, kvs, rfl, h1, h2, h3⟩
theorem RB.dn {K : PySem.W.Frag} {kap : Kp} {F H : Hp} {v : V} {ds : List (D × D)} (e : Same F H) (h : RB K kap F H v (.dn ds)) : ∃ (a : Addr) (o : Obj) (xs : List NEnt) (vs : List V), v = .ref a ∧ H a = some (exO a o) ∧ DOb o xs ∧ (a == sysModules) = false ∧ Vals vs (xs.map (·.2.2)) ∧ (xs.map fun x => some x.1) = ds.map (fun p => keyN p.1) ∧ Reps K kap F (xs.map fun x => V.ref x.2.1) (ds.map (·.1)) ∧ Reps K kap F vs (ds.map (·.2)) := by
  rcases h with h | ⟨p, rfl, _, o, xs, vs, h1, h2⟩
  · cases h with
    | dn h h1 h2 h3 h4 h5 h6 => exact ⟨_, _, _, _, rfl, e _ _ h, h1, h2, h3, h4, h5, h6⟩
  · exact ⟨p, o, xs, vs, rfl, h1, h2⟩
theorem RB.tup {K : PySem.W.Frag} {kap : Kp} {F H : Hp} {v : V} {ds : List D} (h : RB K kap F H v (.tup ds)) : ∃ a vs, v = .ref a ∧ SqT K F a vs ∧ Reps K kap F vs ds := by
  rcases h with h | ⟨p, rfl, _, h⟩
  · cases h with
    | tup h r => exact ⟨_, _, rfl, h, r⟩
  · exact h.elim
theorem RB.obj {K : PySem.W.Frag} {kap : Kp} {F H : Hp} {v : V} {c : Nat} {fs : List (Str × D)} (e : Same F H) (h : RB K kap F H v (.obj c fs)) :
    ∃ a dx vs, v = .ref a ∧ H a = some (.ins (kap c) dx vs) ∧ vs.map (·.1) = fs.map (·.1) ∧ Reps K kap F (vs.map (·.2)) (fs.map (·.2)) := by
  rcases h with h | ⟨p, rfl, _, dx, vs, h1, h2, h3⟩
  · cases h with
    | obj h n r => exact ⟨_, _, _, rfl, e _ _ h, n, r⟩
  · exact ⟨p, dx, vs, rfl, h1, h2, h3⟩
inductive Op where
  | e (ev : DEnv → Rs D) | s (i : Nat)
def slotAt (i : Nat) (de : DEnv) : Option D := (de[i]?).bind Sl.dat
def slotRun (i : Nat) (de : DEnv) : Rs (DEnv → Option D) :=
  match slotAt i de with
  | some _ => .ok (slotAt i) de
  | none => .bad
def Op.run : Op → DEnv → Rs (DEnv → Option D)
  | .e ev, de => (ev de).bind fun d de' => .ok (fun _ => some d) de'
  | .s i, de => slotRun i de
def runs : List Op → DEnv → Rs (List (DEnv → Option D))
  | [], de => .ok [] de
  | o :: r, de => (o.run de).bind fun f de' => (runs r de').bind fun fs de'' => .ok (f :: fs) de''
def reads (fs : List (DEnv → Option D)) (de : DEnv) : Option (List D) := fs.foldr (fun f acc => (f de).bind fun d => acc.map fun ds => d :: ds) (some [])
theorem reads_cons (f : DEnv → Option D) (fs : List (DEnv → Option D)) (de : DEnv) : reads (f :: fs) de = (f de).bind fun d => (reads fs de).map fun ds => d :: ds := rfl
/-- an operand's value: whenever it is looked at later, it is what the slots say then -/
def RlO (K : PySem.W.Frag) (kap : Kp) : Rel V (DEnv → Option D) where
  rel := fun sg F _ _ v f => ∀ xi F2 H2 de2 O2, RS K kap xi F2 H2 sg de2 O2 → Same F F2 → ∀ d, f de2 = some d → RB K kap F2 H2 v d
def RlOs (K : PySem.W.Frag) (kap : Kp) : Rel (List V) (List (DEnv → Option D)) where
  rel := fun sg F _ _ vs fs => ∀ xi F2 H2 de2 O2, RS K kap xi F2 H2 sg de2 O2 → Same F F2 → ∀ ds, reads fs de2 = some ds → Paired (RB K kap F2 H2) vs ds
/-! ### the judgements -/
section
variable (kap : Kp) (xi : Xi) (X : Cx) (W : WX)
structure JE (e : Expr) (t : WX → TE) (ev : DEnv → Rs D) : Prop where
  p : PE X e (t W)
  s : Snd X.K kap xi (RlE X.K kap) t ev
structure JF (e : Expr) (t : WX → TE) (ev : DEnv → Rs D) : Prop where
  p : PE X e (t W)
  s : Snd X.K kap xi (RlF X.K kap) t ev
structure JT (e : Expr) (t : WX → TT) (ev : DEnv → Rs Bool) : Prop where
  p : PT X e (t W)
  s : Snd X.K kap xi RlB t ev
structure JO (e : Expr) (t : WX → TE) (o : Op) : Prop where
  p : PE X e (t W)
  s : Snd X.K kap xi (RlO X.K kap) t o.run
structure JOs (es : List Expr) (t : WX → TA) (os : List Op) : Prop where
  p : PA X es (t W)
  s : Snd X.K kap xi (RlOs X.K kap) t (runs os)
structure JA (es : List Expr) (t : WX → TA) (ev : DEnv → Rs (List D)) : Prop where
  p : PA X es (t W)
  s : Snd X.K kap xi (RlA X.K kap) t ev
structure JS (st : Stmt) (t : WX → TS) (ev : DEnv → Ot) : Prop where
  p : PS X st (t W)
  s : SndS X.K kap xi t ev
structure JSs (sts : List Stmt) (t : WX → TS) (ev : DEnv → Ot) : Prop where
  p : PSs X sts (t W)
  s : SndS X.K kap xi t ev
end
section
variable {K : PySem.W.Frag} {kap : Kp} {xi : Xi} {F H : Hp} {sg : St} {de : DEnv} {O : Own?}
theorem RS.held (R : RS K kap xi F H sg de O) {i : Nat} {p : Addr} (e : O i = some p) : F p = none ∧ ∃ o, H p = some o := by
  obtain ⟨s, d, h1, h2⟩ := R.onl i p e
  rcases s.of_hld h2 with h2 | h2
  · obtain ⟨q, g1, _, g3, g4⟩ := R.ow i s d h1 h2
    rw [e] at g1
    cases g1
    exact ⟨g3, g4.some⟩
  · obtain ⟨q, g1, g3, g4, _⟩ := R.gh i s d h1 h2
    rw [e] at g1
    cases g1
    exact ⟨g3, g4.some⟩
theorem RS.heldOwn (R : RS K kap xi F H sg de O) {i : Nat} {p : Addr} (e : O i = some p) : ∃ d, Own K kap F H p d := by
  obtain ⟨s, d, h1, h2⟩ := R.onl i p e
  rcases s.of_hld h2 with h2 | h2
  · obtain ⟨q, g1, _, g3, g4⟩ := R.ow i s d h1 h2
    rw [e] at g1
    cases g1
    exact ⟨d, g4⟩
  · obtain ⟨q, g1, g3, g4, _⟩ := R.gh i s d h1 h2
    rw [e] at g1
    cases g1
    exact ⟨d, g4⟩
theorem RS.nofresh (R : RS K kap xi F H sg de O) {p : Addr} (h : H p = none) : ∀ i, O i ≠ some p := fun i e => by
  obtain ⟨g1, o, ho⟩ := R.held e
  rw [h] at ho
  cases ho
theorem RS.rb (R : RS K kap xi F H sg de O) {i : Nat} {d : D} (h : slotAt i de = some d) : ∃ v, sg[i]? = some (some v) ∧ RB K kap F H v d := by
  unfold slotAt at h
  cases e : de[i]? with
  | none => rw [e] at h; cases h
  | some s =>
    rw [e] at h
    cases s with
    | va d' => cases h; obtain ⟨v, h1, h2⟩ := R.va i _ e; exact ⟨v, h1, .inl h2⟩
    | ow d' => cases h; obtain ⟨p, h1, h2, h3, h4⟩ := R.ow i _ _ e rfl; exact ⟨_, h2, .inr ⟨p, rfl, h3, h4⟩⟩
    | pn d' => cases h; obtain ⟨p, h1, h2, h3, h4⟩ := R.ow i _ _ e rfl; exact ⟨_, h2, .inr ⟨p, rfl, h3, h4⟩⟩
    | no => cases h
    | ex c fs => cases h
    | cn d' => cases h; obtain ⟨me, h1, h2, h3⟩ := R.cn i _ e; exact ⟨_, h2, .inl h3⟩
    | fl d f => cases h
    | ll d g => cases h
end
/-! ### names, constants -/
def vVar (i : Nat) (de : DEnv) : Rs D :=
  match de[i]? with
  | some (.va d) => .ok d de
  | some (.ow d) => .ok d (de.set i (.va d))
  | some (.cn d) => .ok d de
  | _ => .bad
def vC (d : D) (de : DEnv) : Rs D := .ok d de
section
variable {kap : Kp} {xi : Xi} {X : Cx} {W : WX} {K : PySem.W.Frag}
theorem snd_var (i : Nat) : Snd K kap xi (RlE K kap) (fun _ => tVar i) (vVar i) := by
  intro W F H sg de O Q R hp
  unfold vVar at hp
  split at hp
  · rename_i d e
    obtain ⟨v, h1, h2⟩ := R.va i d e
    exact ⟨v, h1, hp.done R New.refl R.sub h2⟩
  · rename_i d e
    obtain ⟨F', O', v, R', g, h1, h2⟩ := R.freeze e
    exact ⟨v, h1, hp v F' H O' R' g h2 fun _ z => z.elim⟩
  · rename_i d e
    obtain ⟨me, h1, h2, h3⟩ := R.cn i d e
    exact ⟨_, h2, hp.done R New.refl R.sub h3⟩
  · exact hp.elim
theorem jVar (i : Nat) {x : Str} {pos : Pos} (hN : X.N[i]? = some x := by rfl) (hv : Vis X.env.scope x := by first | exact Or.inl rfl | exact Or.inr (Or.inl rfl) | exact Or.inr (Or.inr rfl)) (hd : (x == ("__debug__" : Str)) = false := by decide)
    (hcd : (x == ("__classdict__" : Str)) = false := by decide) : JE kap xi X W (.Name x pos) (fun _ => tVar i) (vVar i) := ⟨pe_var hN hv hd hcd, snd_var i⟩
theorem snd_c {v : V} {d : D} (r : ∀ F, Rep K kap F v d) : Snd K kap xi (RlE K kap) (fun _ => tC v) (vC d) := by
  intro W F H sg de O Q R hp
  exact hp.done R New.refl R.sub (r F)
theorem jInt {i : Int} {j : Nat} {pos : Pos} : JE kap xi X W (.Constant (.int i) j pos) (fun _ => tC (.int i)) (vC (.int i)) := ⟨pe_int, snd_c fun _ => .int i⟩
theorem jBl {b : Bool} {j : Nat} {pos : Pos} : JE kap xi X W (.Constant (.bool b) j pos) (fun _ => tC (.bl b)) (vC (.bl b)) := ⟨pe_bl, snd_c fun _ => .bl b⟩
theorem jNon {j : Nat} {pos : Pos} : JE kap xi X W (.Constant .none j pos) (fun _ => tC .non) (vC .non) := ⟨pe_non, snd_c fun _ => .non⟩
theorem jStr {x : Str} {j : Nat} {pos : Pos} : JE kap xi X W (.Constant (.str x) j pos) (fun _ => tC (.str x)) (vC (.str x)) := ⟨pe_str, snd_c fun _ => .str x⟩
/-- a module's number, text -/
theorem jGlobI {x : Str} {i : Int} {u : Tok} {pos : Pos} (hm : X.mg x = some (.int i u)) (hg : Gl X x := by rfl) (hd : (x == ("__debug__" : Str)) = false := by decide) : JE kap xi X W (.Name x pos) (fun _ => tC (.int i)) (vC (.int i)) := ⟨pe_glob hg hm ⟨u, rfl⟩ hd, snd_c fun _ => .int i⟩
/-- a class of one's own, a built-in class, as a value -/
theorem jCls (c : Nat) {x : Str} {C : Addr} {pos : Pos} (hk : kap c = C) (hm : X.mg x = some (.ref C)) (hg : Gl X x := by rfl) (hd : (x == ("__debug__" : Str)) = false := by decide) : JE kap xi X W (.Name x pos) (fun _ => tC (.ref C)) (vC (.cls (.o c))) := ⟨pe_glob hg hm rfl hd, snd_c fun _ => by rw [← hk]; exact .clsO c⟩
theorem jTy {x : Str} {n : String} {pos : Pos} (hm : X.mg x = none) (hv : bootBuiltins x = some (.type n)) (hg : Gl X x := by rfl) (hn : x ≠ "__name__" := by decide) (hd : (x == ("__debug__" : Str)) = false := by decide) : JE kap xi X W (.Name x pos) (fun _ => tC (.ty n)) (vC (.cls (.b n))) := ⟨pe_bltn hg hm hv rfl hn hd, snd_c fun _ => .clsB n⟩
/-- operands -/
theorem JE.o {e : Expr} {t : WX → TE} {ev : DEnv → Rs D} (h : JE kap xi X W e t ev) : JO kap xi X W e t (.e ev) := ⟨h.p, by
  intro W F H sg de O Q R hp
  refine h.s.bind R hp fun v d F1 H1 de1 O1 R1 g1 r _ hp => ?_
  exact hp.done R1 New.refl R1.sub fun xi F2 H2 de2 O2 R2 e d' hd => by cases hd; exact .inl (r.mono e)⟩
theorem jSlot (i : Nat) {x : Str} {pos : Pos} (hN : X.N[i]? = some x := by rfl) (hv : Vis X.env.scope x := by first | exact Or.inl rfl | exact Or.inr (Or.inl rfl) | exact Or.inr (Or.inr rfl)) (hd : (x == ("__debug__" : Str)) = false := by decide)
    (hcd : (x == ("__classdict__" : Str)) = false := by decide) : JO kap xi X W (.Name x pos) (fun _ => tVar i) (.s i) := ⟨pe_var hN hv hd hcd, by
  intro W F H sg de O Q R hp
  have hp : PE1 X.K kap (RlO X.K kap) xi F H sg de O W Q (slotRun i de) := hp
  unfold slotRun at hp
  split at hp
  · rename_i d e
    obtain ⟨v, hv, _⟩ := R.rb e
    refine ⟨v, hv, hp.done R New.refl R.sub fun xi F2 H2 de2 O2 R2 e d hd => ?_⟩
    obtain ⟨v', h1, h2⟩ := R2.rb hd
    rw [hv] at h1
    cases h1
    exact h2
  · exact hp.elim⟩
/-- lists of operands -/
theorem josNil : JOs kap xi X W [] (fun _ => tNil) [] := ⟨pa_nil, fun W F H sg de O Q R hp => hp.done R New.refl R.sub fun _ _ _ _ _ _ _ ds h => by cases h; exact .nil⟩
theorem josCons {e : Expr} {es : List Expr} {t : WX → TE} {o : Op} {ts : WX → TA} {os : List Op} (h : JO kap xi X W e t o) (hr : JOs kap xi X W es ts os) (hs : starEach (e :: es) X.env = (false, eval e X.env) :: starEach es X.env := by rfl) :
    JOs kap xi X W (e :: es) (fun W => tCons (t W) (ts W)) (o :: os) := ⟨pa_cons h.p hr.p hs, by
  intro W F H sg de O Q R hp
  refine h.s.bind R hp fun v f F1 H1 de1 O1 R1 g1 r _ hp => ?_
  refine hr.s.bind R1 hp fun vs fs F2 H2 de2 O2 R2 g2 rs _ hp => ?_
  refine hp.done (v := v :: vs) R2 New.refl R2.sub fun xi F3 H3 de3 O3 R3 e3 ds hd => ?_
  rw [reads_cons] at hd
  cases e1 : f de3 with
  | none => rw [e1] at hd; cases hd
  | some d =>
    cases e2 : reads fs de3 with
    | none => rw [e1, e2] at hd; cases hd
    | some ds' =>
      rw [e1, e2] at hd
      cases hd
      exact .cons (r xi F3 H3 de3 O3 R3 (g2.ex.trans e3) d e1) (rs xi F3 H3 de3 O3 R3 e3 ds' e2)⟩
end
end DL
set_option maxRecDepth 100000
set_option maxHeartbeats 2000000
set_option autoImplicit false
namespace DL
open PySem L2
/-! ### operations on values -/
section
variable (K : PySem.W.Frag) (kap : Kp)
def SP2 (r : R2) (f : D → D → Option D) : Prop := ∀ F H x y a b z Q, Same F H → NX kap F H → RB K kap F H x a → RB K kap F H y b → f a b = some z → (∀ v F' H', New kap.tab F H F' H' → Same F' H' → Rep K kap F' v z → Q v H') → r x y H Q
def SP1 (r : V → Hp → VK → Prop) (f : D → Option D) : Prop := ∀ F H x a z Q, Same F H → NX kap F H → RB K kap F H x a → f a = some z → (∀ v F' H', New kap.tab F H F' H' → Same F' H' → Rep K kap F' v z → Q v H') → r x H Q
def SPN (r : List V → Hp → VK → Prop) (f : List D → Option D) : Prop := ∀ F H xs as z Q, Same F H → NX kap F H → Paired (RB K kap F H) xs as → f as = some z → (∀ v F' H', New kap.tab F H F' H' → Same F' H' → Rep K kap F' v z → Q v H') → r xs H Q
def SFN (r : List V → Hp → VK → Prop) (f : List D → Option D) : Prop := ∀ F H xs as z Q, Same F H → NX kap F H → Paired (RB K kap F H) xs as → f as = some z → (∀ p H', New kap.tab F H F H' → Same F H' → H p = none → Own K kap F H' p z → Q (.ref p) H') → r xs H Q
end
def ofO {α : Type} (o : Option α) (de : DEnv) : Rs α := match o with | some a => .ok a de | none => .bad
def vO2 (f : D → D → Option D) (oa ob : Op) (de : DEnv) : Rs D :=
  (oa.run de).bind fun fa de1 => (ob.run de1).bind fun fb de2 => ofO ((fa de2).bind fun x => (fb de2).bind fun y => f x y) de2
def vO1 (f : D → Option D) (oa : Op) (de : DEnv) : Rs D := (oa.run de).bind fun fa de1 => ofO ((fa de1).bind f) de1
def vON (f : List D → Option D) (os : List Op) (de : DEnv) : Rs D := (runs os de).bind fun fs de1 => ofO ((reads fs de1).bind f) de1
section
variable {K : PySem.W.Frag} {kap : Kp} {xi : Xi} {F H : Hp} {sg : St} {de : DEnv} {O : Own?} {W : WX}
theorem ofO_some {α β : Type} {Rl : Rel β α} {Q : β → Hp → Prop} {o : Option α} (hp : PE1 K kap Rl xi F H sg de O W Q (ofO o de)) : ∃ a, o = some a ∧ PE1 K kap Rl xi F H sg de O W Q (.ok a de) := by
  cases o with
  | none => exact hp.elim
  | some a => exact ⟨a, rfl, hp⟩
theorem bind_some {α β : Type} {o : Option α} {f : α → Option β} {b : β} (h : o.bind f = some b) : ∃ a, o = some a ∧ f a = some b := Option.bind_eq_some_iff.mp h
theorem fresh_new (R : RS K kap xi F H sg de O) {p : Addr} {H' : Hp} {z : D} {T : List (Addr × Str)} (n : New T F H F H') (sub : Same F H') (hp : H p = none) (h : Own K kap F H' p z) : Frs K kap F H' O (.ref p) z :=
  ⟨p, rfl, R.sub.free hp, h, R.nofresh hp⟩
theorem snd_o2 {ta tb : WX → TE} {oa ob : Op} {r : R2} {f : D → D → Option D} (s : SP2 K kap r f) (ha : Snd K kap xi (RlO K kap) ta oa.run) (hb : Snd K kap xi (RlO K kap) tb ob.run) : Snd K kap xi (RlE K kap) (fun W => tOp r (ta W) (tb W)) (vO2 f oa ob) := by
  intro W F H sg de O Q R hp
  refine ha.bind R hp fun x fa F1 H1 de1 O1 R1 g1 ra _ hp => ?_
  refine hb.bind R1 hp fun y fb F2 H2 de2 O2 R2 g2 rb _ hp => ?_
  obtain ⟨z, e, hp⟩ := ofO_some hp
  obtain ⟨a, e1, e⟩ := bind_some e
  obtain ⟨b, e2, e⟩ := bind_some e
  refine s F2 H2 x y a b z Q R2.sub R2.nx (ra xi F2 H2 de2 O2 R2 g2.ex a e1) (rb xi F2 H2 de2 O2 R2 (Same.refl _) b e2) e fun v F' H' n sub r => ?_
  exact hp.done R2 n sub r
theorem snd_o1 {ta : WX → TE} {oa : Op} {r : V → Hp → VK → Prop} {f : D → Option D} (s : SP1 K kap r f) (ha : Snd K kap xi (RlO K kap) ta oa.run) : Snd K kap xi (RlE K kap) (fun W => tUn r (ta W)) (vO1 f oa) := by
  intro W F H sg de O Q R hp
  refine ha.bind R hp fun x fa F1 H1 de1 O1 R1 g1 ra _ hp => ?_
  obtain ⟨z, e, hp⟩ := ofO_some hp
  obtain ⟨a, e1, e⟩ := bind_some e
  refine s F1 H1 x a z Q R1.sub R1.nx (ra xi F1 H1 de1 O1 R1 (Same.refl _) a e1) e fun v F' H' n sub r => ?_
  exact hp.done R1 n sub r
theorem snd_oN {t : WX → TA} {os : List Op} {r : List V → Hp → VK → Prop} {f : List D → Option D} (s : SPN K kap r f) (ha : Snd K kap xi (RlOs K kap) t (runs os)) : Snd K kap xi (RlE K kap) (fun W => tCB r (t W)) (vON f os) := by
  intro W F H sg de O Q R hp
  refine ha.bind R hp fun x fa F1 H1 de1 O1 R1 g1 ra _ hp => ?_
  obtain ⟨z, e, hp⟩ := ofO_some hp
  obtain ⟨a, e1, e⟩ := bind_some e
  refine s F1 H1 x a z Q R1.sub R1.nx (ra xi F1 H1 de1 O1 R1 (Same.refl _) a e1) e fun v F' H' n sub r => ?_
  exact hp.done R1 n sub r
theorem snd_fN {t : WX → TA} {os : List Op} {r : List V → Hp → VK → Prop} {f : List D → Option D} (s : SFN K kap r f) (ha : Snd K kap xi (RlOs K kap) t (runs os)) : Snd K kap xi (RlF K kap) (fun W => tCB r (t W)) (vON f os) := by
  intro W F H sg de O Q R hp
  refine ha.bind R hp fun x fa F1 H1 de1 O1 R1 g1 ra _ hp => ?_
  obtain ⟨z, e, hp⟩ := ofO_some hp
  obtain ⟨a, e1, e⟩ := bind_some e
  refine s F1 H1 x a z Q R1.sub R1.nx (ra xi F1 H1 de1 O1 R1 (Same.refl _) a e1) e fun p H' n sub hq h => ?_
  exact hp.done R1 n sub (fresh_new R1 n sub hq h) fun p' e => by cases e; exact hq
end
section
variable {kap : Kp} {xi : Xi} {X : Cx} {W : WX} {a b : Expr} {ta tb : WX → TE} {oa ob : Op} {pos p : Pos} {r : R2} {f : D → D → Option D}
theorem jOp {op : Operator} (ho : OpR X (binaryOp op) r) (s : SP2 X.K kap r f) (ha : JO kap xi X W a ta oa) (hb : JO kap xi X W b tb ob) : JE kap xi X W (.BinOp a op b pos) (fun W => tOp r (ta W) (tb W)) (vO2 f oa ob) := ⟨pe_op ho ha.p hb.p, snd_o2 s ha.s hb.s⟩
theorem jUn {op : UnaryOp} {r : V → Hp → VK → Prop} {f : D → Option D} (ho : UnR X (unaryOp op) r) (s : SP1 X.K kap r f) (ha : JO kap xi X W a ta oa) : JE kap xi X W (.UnaryOp op a pos) (fun W => tUn r (ta W)) (vO1 f oa) := ⟨pe_un ho ha.p, snd_o1 s ha.s⟩
theorem jCmp {op : CmpOp} (ho : OpR X (compareOp op) r) (s : SP2 X.K kap r f) (ha : JO kap xi X W a ta oa) (hb : JO kap xi X W b tb ob) (hm : behindInMarks op b = false := by first | exact nomark _ | rfl) : JE kap xi X W (.Compare a [op] [b] pos) (fun W => tOp r (ta W) (tb W)) (vO2 f oa ob) := ⟨pe_cmpR ho ha.p hb.p hm, snd_o2 s ha.s hb.s⟩
theorem jIx {r : R2} (hr : IxR X r) (s : SP2 X.K kap r f) (ha : JO kap xi X W a ta oa) (hb : JO kap xi X W b tb ob) (hs : PlainIx b := by exact fun _ _ => rfl) : JE kap xi X W (.Subscript a b pos) (fun W => tOp r (ta W) (tb W)) (vO2 f oa ob) := ⟨pe_ix hr ha.p hb.p hs, snd_o2 s ha.s hb.s⟩
variable {e : Expr} {es : List Expr} {t : WX → TA} {os : List Op} {x : Str} {id T : String} {rN : List V → Hp → VK → Prop} {fN : List D → Option D}
theorem jCB (hc : CallR X (.builtin id) rN) (s : SPN X.K kap rN fN) (hm : X.mg x = none) (hv : bootBuiltins x = some (.builtin id)) (ha : JOs kap xi X W (e :: es) t os) (hg : Gl X x := by rfl) (hn : x ≠ "__name__" := by decide) (hdb : (x == ("__debug__" : Str)) = false := by decide)
    (he : starEach (e :: es) X.env = (false, eval e X.env) :: starEach es X.env := by rfl) (hpl : (backTo pos (starEach es X.env)).any (·.1) = false := by rfl) : JE kap xi X W (.Call (.Name x p) (e :: es) [] pos) (fun W => tCB rN (t W)) (vON fN os) := ⟨pe_callB hc hg hm hv ha.p hn hdb he hpl, snd_oN s ha.s⟩
theorem jCT (hc : CallR X (.type T) rN) (s : SPN X.K kap rN fN) (hm : X.mg x = none) (hv : bootBuiltins x = some (.type T)) (ha : JOs kap xi X W (e :: es) t os) (hg : Gl X x := by rfl) (hn : x ≠ "__name__" := by decide) (hdb : (x == ("__debug__" : Str)) = false := by decide)
    (he : starEach (e :: es) X.env = (false, eval e X.env) :: starEach es X.env := by rfl) (hpl : (backTo pos (starEach es X.env)).any (·.1) = false := by rfl) : JE kap xi X W (.Call (.Name x p) (e :: es) [] pos) (fun W => tCB rN (t W)) (vON fN os) := ⟨pe_callTy hc hg hm hv ha.p hn hdb he hpl, snd_oN s ha.s⟩
theorem jCTF (hc : CallR X (.type T) rN) (s : SFN X.K kap rN fN) (hm : X.mg x = none) (hv : bootBuiltins x = some (.type T)) (ha : JOs kap xi X W (e :: es) t os) (hg : Gl X x := by rfl) (hn : x ≠ "__name__" := by decide) (hdb : (x == ("__debug__" : Str)) = false := by decide)
    (he : starEach (e :: es) X.env = (false, eval e X.env) :: starEach es X.env := by rfl) (hpl : (backTo pos (starEach es X.env)).any (·.1) = false := by rfl) : JF kap xi X W (.Call (.Name x p) (e :: es) [] pos) (fun W => tCB rN (t W)) (vON fN os) := ⟨pe_callTy hc hg hm hv ha.p hn hdb he hpl, snd_fN s ha.s⟩
end
/-! ### whole numbers -/
def fI (g : Int → Int → D) : D → D → Option D
  | .int i, .int j => some (g i j)
  | _, _ => none
def fIC (c : Int → Int → Bool) (g : Int → Int → D) : D → D → Option D
  | .int i, .int j => if c i j then some (g i j) else none
  | _, _ => none
def fU (g : Int → Int) : D → Option D
  | .int i => some (.int (g i))
  | _ => none
section
variable {K : PySem.W.Frag} {kap : Kp} {xi : Xi}
theorem spI {gv : Int → Int → V} {g : Int → Int → D} (hg : ∀ i j F, Rep K kap F (gv i j) (g i j)) : SP2 K kap (rI0 gv) (fI g) := by
  intro F H x y a b z Q sub nt ra rb e q
  unfold fI at e
  split at e
  · cases e
    exact ⟨_, _, ra.int, rb.int, q _ F H New.refl sub (hg _ _ F)⟩
  · cases e
theorem spIC {C : Int → Int → Prop} {c : Int → Int → Bool} {gv : Int → Int → V} {g : Int → Int → D} (hc : ∀ i j, c i j = true → C i j) (hg : ∀ i j F, Rep K kap F (gv i j) (g i j)) : SP2 K kap (rI C gv) (fIC c g) := by
  intro F H x y a b z Q sub nt ra rb e q
  unfold fIC at e
  split at e
  · split at e
    · rename_i hh
      cases e
      exact ⟨_, _, ra.int, rb.int, hc _ _ hh, q _ F H New.refl sub (hg _ _ F)⟩
    · cases e
  · cases e
theorem spU {gv : Int → Int} : SP1 K kap (rU fun i => .int (gv i)) (fU gv) := by
  intro F H x a z Q sub nt ra e q
  unfold fU at e
  split at e
  · cases e
    exact ⟨_, ra.int, q _ F H New.refl sub (.int _)⟩
  · cases e
end
def fSub : D → D → Option D := fI fun i j => .int (i - j)
def cMul (i j : Int) : Bool := decide (i.natAbs < 2 ^ 4000) && decide (j.natAbs < 2 ^ 4000)
def fMul : D → D → Option D := fIC cMul fun i j => .int (i * j)
def cDiv (_ j : Int) : Bool := decide (0 < j) && decide (j.natAbs < 2 ^ 8000)
def fFdiv : D → D → Option D := fIC cDiv fun i j => .int (i / j)
def cMod (_ j : Int) : Bool := decide (0 < j)
def fMod : D → D → Option D := fIC cMod fun i j => .int (i % j)
def cPow (i j : Int) : Bool := decide (0 ≤ j) && decide (j ≤ 1000000) && decide (i.natAbs < 2 ^ 64)
def fPow : D → D → Option D := fIC cPow fun i j => .int (i ^ j.toNat)
def fLt : D → D → Option D := fI fun i j => .bl (decide (i < j))
def fLe : D → D → Option D := fI fun i j => .bl (decide (i ≤ j))
def fGt : D → D → Option D := fI fun i j => .bl (decide (j < i))
def fGe : D → D → Option D := fI fun i j => .bl (decide (j ≤ i))
def fNeg : D → Option D := fU fun i => -i
section
variable {kap : Kp} {xi : Xi} {X : Cx} {W : WX} {a b : Expr} {ta tb : WX → TE} {oa ob : Op} {pos : Pos}
theorem jSub (ha : JO kap xi X W a ta oa) (hb : JO kap xi X W b tb ob) : JE kap xi X W (.BinOp a .Sub b pos) (fun W => tOp (rI0 fun i j => .int (i - j)) (ta W) (tb W)) (vO2 fSub oa ob) := jOp op_sub (spI fun _ _ _ => .int _) ha hb
theorem jMul (ha : JO kap xi X W a ta oa) (hb : JO kap xi X W b tb ob) : JE kap xi X W (.BinOp a .Mult b pos) (fun W => tOp (rI CMulW fun i j => .int (i * j)) (ta W) (tb W)) (vO2 fMul oa ob) := jOp op_mulW (spIC (fun i j h => by
    unfold cMul at h
    rw [Bool.and_eq_true, decide_eq_true_eq, decide_eq_true_eq] at h
    exact wide_mul h.1 h.2 (by decide) (by decide) (by decide)) fun _ _ _ => .int _) ha hb
theorem jFdiv (ha : JO kap xi X W a ta oa) (hb : JO kap xi X W b tb ob) : JE kap xi X W (.BinOp a .FloorDiv b pos) (fun W => tOp (rI CDivW fun i j => .int (i / j)) (ta W) (tb W)) (vO2 fFdiv oa ob) := jOp op_fdivW (spIC (fun i j h => by
    unfold cDiv at h
    rw [Bool.and_eq_true, decide_eq_true_eq, decide_eq_true_eq] at h
    exact wide_div h.1 h.2 (by decide) (by decide)) fun _ _ _ => .int _) ha hb
theorem jMod (ha : JO kap xi X W a ta oa) (hb : JO kap xi X W b tb ob) : JE kap xi X W (.BinOp a .Mod b pos) (fun W => tOp (rI (fun _ j => 0 < j) fun i j => .int (i % j)) (ta W) (tb W)) (vO2 fMod oa ob) := jOp op_mod (spIC (fun i j h => by
    unfold cMod at h
    exact of_decide_eq_true h) fun _ _ _ => .int _) ha hb
theorem jPow (ha : JO kap xi X W a ta oa) (hb : JO kap xi X W b tb ob) : JE kap xi X W (.BinOp a .Pow b pos) (fun W => tOp (rI CPow fun i j => .int (i ^ j.toNat)) (ta W) (tb W)) (vO2 fPow oa ob) := jOp op_pow (spIC (fun i j h => by
    unfold cPow at h
    rw [Bool.and_eq_true, Bool.and_eq_true, decide_eq_true_eq, decide_eq_true_eq, decide_eq_true_eq] at h
    exact ⟨h.1.1, h.1.2, h.2⟩) fun _ _ _ => .int _) ha hb
theorem jNeg (ha : JO kap xi X W a ta oa) : JE kap xi X W (.UnaryOp .USub a pos) (fun W => tUn (rU fun i => .int (-i)) (ta W)) (vO1 fNeg oa) := jUn un_neg spU ha
end
/-! ### + of anything -/
def fAdd : D → D → Option D
  | .int i, .int j => some (.int (i + j))
  | .str x, .str y => if x.length + y.length ≤ 16777216 then some (.str (x ++ y)) else none
  | .tup xs, .tup ys => if xs.length + ys.length ≤ 16777216 then some (.tup (xs ++ ys)) else none
  | .lst xs, .lst ys => if xs.length + ys.length ≤ 16777216 then some (.lst (xs ++ ys)) else none
  | _, _ => none
def fCat : D → D → Option D
  | .lst xs, .lst ys => if xs.length + ys.length ≤ 16777216 then some (.lst (xs ++ ys)) else none
  | _, _ => none
theorem line_eq : (sizeLine : Nat) = 16777216 := sizeLine_eq
section
variable {K : PySem.W.Frag} {kap : Kp} {xi : Xi}
def rAddA (K : PySem.W.Frag) : R2 := fun x y H Q => rI0 (fun i j => .int (i + j)) x y H Q ∨ (∃ i j, x = .str i ∧ y = .str j ∧ i.length + j.length ≤ sizeLine ∧ Q (.str (i ++ j)) H) ∨ rCatA K x y H Q ∨ rCat x y H Q
theorem op_addA {X : Cx} : OpR X (binaryOp .Add) (rAddA X.K) := op_add.or (op_add_str.or (op_catA.or op_cat))
theorem sp_addA : SP2 K kap (rAddA K) fAdd := by
  intro F H x y a b z Q sub nt ra rb e q
  unfold fAdd at e
  split at e
  · cases e
    exact .inl ⟨_, _, ra.int, rb.int, q _ F H New.refl sub (.int _)⟩
  · split at e
    · rename_i hl
      cases e
      exact .inr (.inl ⟨_, _, ra.str, rb.str, by rw [line_eq]; exact hl, q _ F H New.refl sub (.str _)⟩)
    · cases e
  · rename_i xs ys
    split at e
    · rename_i hl
      cases e
      obtain ⟨p, vs, rfl, h1, r1⟩ := ra.tup
      obtain ⟨p2, ws, rfl, h2, r2⟩ := rb.tup
      refine .inr (.inr (.inl ⟨_, _, _, _, rfl, rfl, sqT_mono sub h1, sqT_mono sub h2, by rw [line_eq, r1.length, r2.length]; exact hl, fun e => ?_, fun e e2 => ?_, fun e e2 p hp => ?_⟩))
      · subst e
        cases r1
        exact q _ F H New.refl sub (.tup h2 r2)
      · subst e2
        cases r2
        rw [List.append_nil] at q
        exact q _ F H New.refl sub (.tup h1 r1)
      · obtain ⟨n, s2⟩ := New.one (o := .tup (vs ++ ws)) sub hp
        exact q _ _ _ n s2 (.tup (SqT.of upd_same) ((r1.append r2).mono n.f))
    · cases e
  · rename_i xs ys
    split at e
    · rename_i hl
      cases e
      obtain ⟨p, vs, rfl, h1, r1⟩ := ra.lst sub
      obtain ⟨p2, ws, rfl, h2, r2⟩ := rb.lst sub
      refine .inr (.inr (.inr ⟨_, _, _, _, rfl, rfl, h1, h2, by rw [line_eq, r1.length, r2.length]; exact hl, fun p hp => ?_⟩))
      obtain ⟨n, s2⟩ := New.one (o := .lst (vs ++ ws)) sub hp
      exact q _ _ _ n s2 (.lst upd_same ((r1.append r2).mono n.f))
    · cases e
  · cases e
theorem new_fresh {T : List (Addr × Str)} {F H : Hp} {p : Addr} {o : HO} (sub : Same F H) (hp : H p = none) (ho : NL o p := by exact .ext (by simp) (by simp)) : New T F H F (upd H p o) ∧ Same F (upd H p o) :=
  ⟨.ofSame (Same.refl F) (same_upd hp) (fun _ h => .inl h) (fun t => t.upd (.none hp) ho) fun h => h, sub.trans (same_upd hp)⟩
end
/-! ### == of plain data -/
mutual
def toPy : D → PyData
  | .non => .none
  | .bl b => .bool b
  | .int i => .int i
  | .str s => .str s
  | .tup xs => .tuple (toPys xs)
  | .lst xs => .list (toPys xs)
  | .scr _ => .dict []
  | .dk _ => .dict []
  | .dn _ => .dict []
  | .obj _ _ => .dict []
  | .cls _ => .dict []
  | .fn _ _ => .dict []
  | .any => .dict []
def toPys : List D → List PyData
  | [] => []
  | d :: r => toPy d :: toPys r
end
def fEq (a b : D) : Option D := if SeqAt.shaped (toPy a) && SeqAt.shaped (toPy b) then some (.bl (PyData.eqv (toPy a) (toPy b))) else none
def fNe (a b : D) : Option D := if SeqAt.shaped (toPy a) && SeqAt.shaped (toPy b) then some (.bl (!PyData.eqv (toPy a) (toPy b))) else none
section
variable {K : PySem.W.Frag} {kap : Kp} {xi : Xi} {F : Hp}
mutual
theorem dp_of : ∀ {v : V} {d : D}, Rep K kap F v d → (toPy d).canLay0 = true → Dp K F v (toPy d)
  | _, _, .non, _ => .non
  | _, _, .bl b, _ => .bl b
  | _, _, .int i, _ => .int i
  | _, _, .str s, _ => .str s
  | _, _, .tup h r, c => .tup h (dps_of r (by simpa [toPy, PyData.canLay0] using c))
  | _, _, .lst h r, c => .lst (SqL.of h) (dps_of r (by simpa [toPy, PyData.canLay0] using c))
  | _, _, .scr _ _, c => by simp [toPy, PyData.canLay0] at c
  | _, _, .dk _ _ _, c => by simp [toPy, PyData.canLay0] at c
  | _, _, .dn _ _ _ _ _ _ _, c => by simp [toPy, PyData.canLay0] at c
  | _, _, .obj _ _ _, c => by simp [toPy, PyData.canLay0] at c
  | _, _, .clsB _, c => by simp [toPy, PyData.canLay0] at c
  | _, _, .clsO _, c => by simp [toPy, PyData.canLay0] at c
  | _, _, .any _, c => by simp [toPy, PyData.canLay0] at c
  | _, _, .fn _ _ _ _ _, c => by simp [toPy, PyData.canLay0] at c
theorem dps_of : ∀ {vs : List V} {ds : List D}, Reps K kap F vs ds → PyData.canLayAll0 (toPys ds) = true → DpAll K F vs (toPys ds)
  | _, _, .nil, _ => .nil
  | _ :: _, d :: ds, .cons h r, c => by
    have c' : (toPy d).canLay0 = true ∧ PyData.canLayAll0 (toPys ds) = true := by simpa [toPys, PyData.canLayAll0] using c
    exact .cons (dp_of h c'.1) (dps_of r c'.2)
end
theorem sp_eq : SP2 K kap (rEqD K) fEq := by
  intro F H x y a b z Q sub nt ra rb e q
  unfold fEq at e
  split at e
  · rename_i h
    rw [Bool.and_eq_true] at h
    cases e
    exact ⟨_, _, dp_of (ra.rep sub) (SeqAt.canLay_of_shaped h.1), dp_of (rb.rep sub) (SeqAt.canLay_of_shaped h.2), h.1, h.2, q _ F H New.refl sub (.bl _)⟩
  · cases e
theorem sp_ne : SP2 K kap (rNeD K) fNe := by
  intro F H x y a b z Q sub nt ra rb e q
  unfold fNe at e
  split at e
  · rename_i h
    rw [Bool.and_eq_true] at h
    cases e
    exact ⟨_, _, dp_of (ra.rep sub) (SeqAt.canLay_of_shaped h.1), dp_of (rb.rep sub) (SeqAt.canLay_of_shaped h.2), h.1, h.2, q _ F H New.refl sub (.bl _)⟩
  · cases e
end
/-! ### is None -/
def fIsN : D → D → Option D
  | .non, .non => some (.bl true)
  | _, .non => some (.bl false)
  | _, _ => none
def fNotN : D → D → Option D
  | .non, .non => some (.bl false)
  | _, .non => some (.bl true)
  | _, _ => none
section
variable {K : PySem.W.Frag} {kap : Kp} {xi : Xi}
theorem rb_non {F H : Hp} {v : V} {d : D} (h : RB K kap F H v d) (hd : d ≠ .non) : v ≠ .non := by
  rcases h with h | ⟨p, rfl, _, _⟩
  · cases h with
    | non => exact absurd rfl hd
    | _ => simp
  · simp
theorem sp_isN : SP2 K kap (fun x y H Q => y = .non ∧ Q (.bl (decide (x = .non))) H) fIsN := by
  intro F H x y a b z Q sub nt ra rb e q
  unfold fIsN at e
  split at e
  · cases e
    refine ⟨rb.non, ?_⟩
    rw [decide_eq_true ra.non]
    exact q _ F H New.refl sub (.bl _)
  · rename_i hn
    cases e
    refine ⟨rb.non, ?_⟩
    rw [decide_eq_false (rb_non ra fun z => hn z)]
    exact q _ F H New.refl sub (.bl _)
  · cases e
theorem sp_notN : SP2 K kap (fun x y H Q => y = .non ∧ Q (.bl (!decide (x = .non))) H) fNotN := by
  intro F H x y a b z Q sub nt ra rb e q
  unfold fNotN at e
  split at e
  · cases e
    refine ⟨rb.non, ?_⟩
    rw [decide_eq_true ra.non]
    exact q _ F H New.refl sub (.bl _)
  · rename_i hn
    cases e
    refine ⟨rb.non, ?_⟩
    rw [decide_eq_false (rb_non ra fun z => hn z)]
    exact q _ F H New.refl sub (.bl _)
  · cases e
end
/-! ### items -/
def fIx : D → D → Option D
  | .tup xs, .int i => atI xs i
  | .lst xs, .int i => atI xs i
  | .scr xs, .int i => atI xs i
  | .str s, .int i => if s.length ≤ 16777216 then (atI s.cps.toList i).map fun c => .str ⟨#[c]⟩ else none
  | _, _ => none
section
variable {K : PySem.W.Frag} {kap : Kp} {xi : Xi}
theorem reps_at {F : Hp} {vs : List V} {ds : List D} {i : Int} {d : D} (r : Reps K kap F vs ds) (h : atI ds i = some d) : ∃ v, atI vs i = some v ∧ Rep K kap F v d := by
  unfold atI at h ⊢
  rw [r.length]
  obtain ⟨j, h1, h2⟩ := bind_some h
  obtain ⟨v, g1, g2⟩ := r.get h2
  exact ⟨v, by rw [h1]; exact g1, g2⟩
theorem sp_ix : SP2 K kap (rIx K) fIx := by
  intro F H x y a b z Q sub nt ra rb e q
  unfold fIx at e
  split at e
  · obtain ⟨p, vs, rfl, h1, r1⟩ := ra.tup
    obtain ⟨v, g1, g2⟩ := reps_at r1 e
    exact .inr (.inl ⟨p, vs, _, v, rfl, rb.int, sqT_mono sub h1, g1, q _ F H New.refl sub g2⟩)
  · obtain ⟨p, vs, rfl, h1, r1⟩ := ra.lst sub
    obtain ⟨v, g1, g2⟩ := reps_at r1 e
    exact .inl ⟨p, vs, _, v, rfl, rb.int, SqL.of h1, g1, q _ F H New.refl sub g2⟩
  · obtain ⟨p, vs, rfl, h1, r1⟩ := ra.scr
    obtain ⟨v, g1, g2⟩ := reps_at r1 e
    exact .inl ⟨p, vs, _, v, rfl, rb.int, sqL_mono sub h1, g1, q _ F H New.refl sub g2⟩
  · split at e
    · rename_i hl
      obtain ⟨c, h1, h2⟩ := Option.map_eq_some_iff.mp e
      cases h2
      exact .inr (.inr ⟨_, _, c, ra.str, rb.int, by rw [line_eq]; exact hl, h1, q _ F H New.refl sub (.str _)⟩)
    · cases e
  · cases e
end
/-! ### built-ins -/
def fLen : List D → Option D
  | [.str s] => if s.length ≤ 16777216 then some (.int s.length) else none
  | [.tup xs] => some (.int xs.length)
  | [.lst xs] => some (.int xs.length)
  | [.scr xs] => some (.int xs.length)
  | [.dk xs] => some (.int xs.length)
  | _ => none
def rLenA (K : PySem.W.Frag) : List V → Hp → VK → Prop := fun xs H Q => (∃ x n, xs = [x] ∧ LenV K x H n ∧ Q (.int n) H) ∨ ∃ a kvs, xs = [V.ref a] ∧ H a = some (.dK kvs) ∧ Q (.int kvs.length) H
theorem callR_or {X : Cx} {f : Value} {r r' : List V → Hp → VK → Prop} (h : CallR X f r) (h' : CallR X f r') : CallR X f (fun xs H Q => r xs H Q ∨ r' xs H Q) :=
  fun pins s sg H xs us Q I rr q => q.elim (h pins s sg H xs us Q I rr) (h' pins s sg H xs us Q I rr)
theorem call_lenA {X : Cx} : CallR X (.builtin "len") (rLenA X.K) := callR_or call_len call_lenD
def fAbs : List D → Option D
  | [.int i] => some (.int (if i < 0 then -i else i))
  | _ => none
def fInt : List D → Option D
  | [.int i] => some (.int i)
  | [.bl k] => some (.int (if k then 1 else 0))
  | _ => none
def fStrI : List D → Option D
  | [.int i] => if i.natAbs.log2 < 1920 then some (.str (toString i)) else none
  | _ => none
def fTuple : List D → Option D
  | [.tup xs] => some (.tup xs)
  | [.lst xs] => some (.tup xs)
  | _ => none
def fList : List D → Option D
  | [.tup xs] => some (.lst xs)
  | [.lst xs] => some (.lst xs)
  | [.scr xs] => some (.lst xs)
  | _ => none
section
variable {K : PySem.W.Frag} {kap : Kp} {xi : Xi}
theorem one_of {F H : Hp} {xs : List V} {a : D} (h : Paired (RB K kap F H) xs [a]) : ∃ x, xs = [x] ∧ RB K kap F H x a := by
  cases h with
  | cons h r => cases r; exact ⟨_, rfl, h⟩
theorem two_of {F H : Hp} {xs : List V} {a b : D} (h : Paired (RB K kap F H) xs [a, b]) : ∃ x y, xs = [x, y] ∧ RB K kap F H x a ∧ RB K kap F H y b := by
  cases h with
  | cons h r => cases r with | cons h2 r => cases r; exact ⟨_, _, rfl, h, h2⟩
theorem sp_len : SPN K kap (rLenA K) fLen := by
  intro F H xs as z Q sub nt ra e q
  unfold fLen at e
  split at e
  · split at e
    · rename_i hl
      cases e
      obtain ⟨x, rfl, r⟩ := one_of ra
      rw [r.str]
      exact .inl ⟨_, _, rfl, ⟨by rw [line_eq]; exact hl, rfl⟩, q _ F H New.refl sub (.int _)⟩
    · cases e
  · cases e
    obtain ⟨x, rfl, r⟩ := one_of ra
    obtain ⟨p, vs, rfl, h1, r1⟩ := r.tup
    exact .inl ⟨_, _, rfl, .inr ⟨vs, sqT_mono sub h1, rfl⟩, by rw [r1.length]; exact q _ F H New.refl sub (.int _)⟩
  · cases e
    obtain ⟨x, rfl, r⟩ := one_of ra
    obtain ⟨p, vs, rfl, h1, r1⟩ := r.lst sub
    exact .inl ⟨_, _, rfl, .inl ⟨vs, SqL.of h1, rfl⟩, by rw [r1.length]; exact q _ F H New.refl sub (.int _)⟩
  · cases e
    obtain ⟨x, rfl, r⟩ := one_of ra
    obtain ⟨p, vs, rfl, h1, r1⟩ := r.scr
    exact .inl ⟨_, _, rfl, .inl ⟨vs, sqL_mono sub h1, rfl⟩, by rw [r1.length]; exact q _ F H New.refl sub (.int _)⟩
  · cases e
    obtain ⟨x, rfl, r⟩ := one_of ra
    obtain ⟨p, kvs, rfl, h1, n1, r1⟩ := r.dk sub
    refine .inr ⟨_, kvs, rfl, h1, ?_⟩
    have hl := r1.length
    rw [List.length_map, List.length_map] at hl
    rw [hl]
    exact q _ F H New.refl sub (.int _)
  · cases e
theorem sp_abs : SPN K kap (fun xs H Q => ∃ i, xs = [.int i] ∧ Q (.int (if i < 0 then -i else i)) H) fAbs := by
  intro F H xs as z Q sub nt ra e q
  unfold fAbs at e
  split at e
  · cases e
    obtain ⟨x, rfl, r⟩ := one_of ra
    rw [r.int]
    exact ⟨_, rfl, q _ F H New.refl sub (.int _)⟩
  · cases e
theorem sp_int : SPN K kap (fun xs H Q => (∃ i, xs = [.int i] ∧ Q (.int i) H) ∨ ∃ k, xs = [.bl k] ∧ Q (.int (if k then 1 else 0)) H) fInt := by
  intro F H xs as z Q sub nt ra e q
  unfold fInt at e
  split at e
  · cases e
    obtain ⟨x, rfl, r⟩ := one_of ra
    rw [r.int]
    exact .inl ⟨_, rfl, q _ F H New.refl sub (.int _)⟩
  · cases e
    obtain ⟨x, rfl, r⟩ := one_of ra
    rw [r.bl]
    exact .inr ⟨_, rfl, q _ F H New.refl sub (.int _)⟩
  · cases e
theorem sf_list : SFN K kap (fun xs H Q => ∃ p ys, xs = [.ref p] ∧ (SqL K H p ys ∨ SqT K H p ys) ∧ ∀ l, H l = none → Q (.ref l) (upd H l (.lst ys))) fList := by
  intro F H xs as z Q sub nt ra e q
  have fin : ∀ {vs : List V} {ds : List D}, Reps K kap F vs ds → z = .lst ds → ∀ l, H l = none → Q (.ref l) (upd H l (.lst vs)) := fun {vs ds} r1 ez l hl => by
    obtain ⟨n, s2⟩ := new_fresh (o := .lst vs) sub hl
    subst ez
    exact q _ _ n s2 hl ⟨_, upd_same, r1⟩
  unfold fList at e
  split at e
  · cases e
    obtain ⟨x, rfl, r⟩ := one_of ra
    obtain ⟨p, vs, rfl, h1, r1⟩ := r.tup
    exact ⟨_, _, rfl, .inr (sqT_mono sub h1), fin r1 rfl⟩
  · cases e
    obtain ⟨x, rfl, r⟩ := one_of ra
    obtain ⟨p, vs, rfl, h1, r1⟩ := r.lst sub
    exact ⟨_, _, rfl, .inl (SqL.of h1), fin r1 rfl⟩
  · cases e
    obtain ⟨x, rfl, r⟩ := one_of ra
    obtain ⟨p, vs, rfl, h1, r1⟩ := r.scr
    exact ⟨_, _, rfl, .inl (sqL_mono sub h1), fin r1 rfl⟩
  · cases e
end
end DL
set_option maxRecDepth 100000
set_option maxHeartbeats 2000000
set_option autoImplicit false
namespace DL
open PySem L2
/-! ### a fresh object is frozen -/
section
variable {K : PySem.W.Frag} {kap : Kp} {xi : Xi} {F H : Hp} {sg : St} {de : DEnv} {O : Own?} {W : WX}
theorem RS.add (R : RS K kap xi F H sg de O) {p : Addr} {o : HO} (hf : F p = none) (hh : H p = some o) (hO : ∀ i, O i ≠ some p) (hnt : ∀ ps, o ≠ .tbl ps := by intro _ z; first | cases z | (unfold exO at z; cases z)) : RS K kap xi (upd F p o) H sg de O where
  len := R.len
  va := fun i d e => by
    obtain ⟨v, h1, h2⟩ := R.va i d e
    exact ⟨v, h1, h2.mono (same_upd hf)⟩
  ow := fun i s d e h => by
    obtain ⟨q, h1, h2, h3, h4⟩ := R.ow i s d e h
    refine ⟨q, h1, h2, ?_, h4.mono (same_upd hf) rfl⟩
    have : q ≠ p := fun z => hO i (by rw [h1, z])
    rw [upd_ne this]; exact h3
  ex := fun i c fs e => by
    obtain ⟨a, d, h1, h2, h3⟩ := R.ex i c fs e
    exact ⟨a, d, h1, h2, h3.mono (same_upd hf)⟩
  onl := R.onl
  inj := R.inj
  sub := fun a u e => by
    by_cases z : a = p
    · subst z; rw [upd_same] at e; cases e; exact hh
    · rw [upd_ne z] at e; exact R.sub a u e
  nt := R.nt.upd hnt
  tab := R.tab
  cn := fun i d e => by
    obtain ⟨me, h1, h2, h3⟩ := R.cn i d e
    exact ⟨me, h1, h2, h3.mono (same_upd hf)⟩
  gh := R.ghs (same_upd hf) (fun i s d q h1 h2 h3 => ⟨by rw [upd_ne fun z => hO i (by rw [h3, z])]; exact (R.held h3).1, rfl⟩) fun i s d h1 h2 => ⟨h1, rfl⟩
theorem snd_fz {t : WX → TE} {ev : DEnv → Rs D} (h : Snd K kap xi (RlF K kap) t ev) : Snd K kap xi (RlE K kap) t ev := by
  intro W F H sg de O Q R hp
  refine h W F H sg de O Q R ?_
  cases e : ev de with
  | ok d de1 =>
    rw [e] at hp
    intro v F' H' O' R' g ⟨p, ev', hf, how, hO⟩ org
    subst ev'
    obtain ⟨o, ho, hr⟩ := how.freeze hf
    refine hp (.ref p) (upd F' p o) H' O' (R'.add hf ho hO fun ps z => how.notTbl ps (by rw [ho, z])) ⟨g.ex.trans (same_upd hf), g.keep, g.new, g.dom, fun a z => ?_, g.pin⟩ hr fun _ z => z.elim
    by_cases q : a = p
    · subst q; exact .inr (org a rfl)
    · rw [upd_ne q] at z; exact g.fnew a z
  | ex c fs de1 => rw [e] at hp; exact hp
  | bad => rw [e] at hp; exact hp
end
section
variable {kap : Kp} {xi : Xi} {X : Cx} {W : WX} {a b c e : Expr} {ta tb tc t : WX → TE} {oa ob oc : Op} {ev ev1 ev2 : DEnv → Rs D} {pos p : Pos}
theorem JF.fz (h : JF kap xi X W e t ev) : JE kap xi X W e t ev := ⟨h.p, snd_fz h.s⟩
/-! ### + -/
theorem jAdd (ha : JO kap xi X W a ta oa) (hb : JO kap xi X W b tb ob) : JE kap xi X W (.BinOp a .Add b pos) (fun W => tOp (rAddA X.K) (ta W) (tb W)) (vO2 fAdd oa ob) := jOp op_addA sp_addA ha hb
/-! ### tests -/
def asB : D → Option Bool
  | .bl b => some b
  | _ => none
def vB (ev : DEnv → Rs D) (de : DEnv) : Rs Bool := (ev de).bind fun d de' => ofO (asB d) de'
def vAnd (e1 e2 : DEnv → Rs Bool) (de : DEnv) : Rs Bool := (e1 de).bind fun b de' => if b = true then e2 de' else .ok false de'
def vOr (e1 e2 : DEnv → Rs Bool) (de : DEnv) : Rs Bool := (e1 de).bind fun b de' => if b = true then .ok true de' else e2 de'
def vNot (e1 : DEnv → Rs Bool) (de : DEnv) : Rs Bool := (e1 de).bind fun b de' => .ok (!b) de'
theorem rep_bl {K : PySem.W.Frag} {F : Hp} {v : V} {d : D} {b : Bool} (r : Rep K kap F v d) (h : asB d = some b) : v = .bl b := by
  cases r with
  | bl b' => cases h; rfl
  | _ => cases h
/-- a comparison as a test -/
theorem jBc {op : CmpOp} {r : R2} {f : D → D → Option D} (ho : OpR X (compareOp op) r) (s : SP2 X.K kap r f) (ha : JO kap xi X W a ta oa) (hb : JO kap xi X W b tb ob) (hm : behindInMarks op b = false := by first | exact nomark _ | rfl) :
    JT kap xi X W (.Compare a [op] [b] pos) (fun W => tTest (tOp r (ta W) (tb W))) (vB (vO2 f oa ob)) := ⟨pt_cmpR ho ha.p hb.p hm, by
  intro W F H sg de O Q R hp
  refine (snd_o2 s ha.s hb.s).bind R hp fun v d F1 H1 de1 O1 R1 g1 r _ hp => ?_
  obtain ⟨b, e, hp⟩ := ofO_some hp
  exact ⟨b, rep_bl r e, hp.done R1 New.refl R1.sub rfl⟩⟩
structure JW (kap : Kp) (xi : Xi) (X : Cx) (W : WX) (e : Expr) (t : WX → TT) (ev : DEnv → Rs Bool) : Prop where
  p : PW X e (t W)
  s : Snd X.K kap xi RlB t ev
variable {t1 t2 : WX → TT} {b1 b2 : DEnv → Rs Bool} {rest : List Expr}
theorem JW.pt (h : JW kap xi X W e t1 b1) : JT kap xi X W e t1 b1 := ⟨h.p.pt, h.s⟩
theorem jwAnd1 (h : JT kap xi X W a t1 b1) : JW kap xi X W (.BoolOp .And [a] pos) t1 b1 := ⟨pw_and1 h.p, h.s⟩
theorem jwOr1 (h : JT kap xi X W a t1 b1) : JW kap xi X W (.BoolOp .Or [a] pos) t1 b1 := ⟨pw_or1 h.p, h.s⟩
theorem snd_and {K : PySem.W.Frag} (h1 : Snd K kap xi RlB t1 b1) (h2 : Snd K kap xi RlB t2 b2) : Snd K kap xi RlB (fun W => tAnd (t1 W) (t2 W)) (vAnd b1 b2) := by
  intro W F H sg de O Q R hp
  refine h1.bind R hp fun v d F1 H1 de1 O1 R1 g1 r _ hp => ?_
  cases (show v = d from r)
  cases v with
  | true => exact iteT (h2 W F1 H1 sg de1 O1 Q R1 hp)
  | false => exact iteF (hp.done R1 New.refl R1.sub rfl)
theorem snd_or {K : PySem.W.Frag} (h1 : Snd K kap xi RlB t1 b1) (h2 : Snd K kap xi RlB t2 b2) : Snd K kap xi RlB (fun W => tOr (t1 W) (t2 W)) (vOr b1 b2) := by
  intro W F H sg de O Q R hp
  refine h1.bind R hp fun v d F1 H1 de1 O1 R1 g1 r _ hp => ?_
  cases (show v = d from r)
  cases v with
  | true => exact iteT (hp.done R1 New.refl R1.sub rfl)
  | false => exact iteF (h2 W F1 H1 sg de1 O1 Q R1 hp)
theorem jwAnd (h1 : JT kap xi X W a t1 b1) (h2 : JW kap xi X W (.BoolOp .And (b :: rest) pos) t2 b2) : JW kap xi X W (.BoolOp .And (a :: b :: rest) pos) (fun W => tAnd (t1 W) (t2 W)) (vAnd b1 b2) := ⟨pw_and h1.p h2.p, snd_and h1.s h2.s⟩
theorem jwOr (h1 : JT kap xi X W a t1 b1) (h2 : JW kap xi X W (.BoolOp .Or (b :: rest) pos) t2 b2) : JW kap xi X W (.BoolOp .Or (a :: b :: rest) pos) (fun W => tOr (t1 W) (t2 W)) (vOr b1 b2) := ⟨pw_or h1.p h2.p, snd_or h1.s h2.s⟩
theorem jtNot (h : JT kap xi X W a t1 b1) : JT kap xi X W (.UnaryOp .Not a pos) (fun W => tNot (t1 W)) (vNot b1) := ⟨pt_not h.p, by
  intro W F H sg de O Q R hp
  refine h.s.bind R hp fun v d F1 H1 de1 O1 R1 g1 r _ hp => ?_
  cases (show v = d from r)
  exact hp.done R1 New.refl R1.sub rfl⟩
def vAndV (e1 e2 : DEnv → Rs D) (de : DEnv) : Rs D := (e1 de).bind fun d de' => match d with | .bl true => e2 de' | .bl false => .ok (.bl false) de' | _ => .bad
def vOrV (e1 e2 : DEnv → Rs D) (de : DEnv) : Rs D := (e1 de).bind fun d de' => match d with | .bl true => .ok (.bl true) de' | .bl false => e2 de' | _ => .bad
def fNotV : D → Option D
  | .bl b => some (.bl (!b))
  | _ => none
def vNotV (e1 : DEnv → Rs D) (de : DEnv) : Rs D := (e1 de).bind fun d de' => ofO (fNotV d) de'
theorem jOneV {op : BoolOp} (h : JE kap xi X W a t ev) : JE kap xi X W (.BoolOp op [a] pos) t ev := ⟨pe_one h.p, h.s⟩
theorem jAndV (h1 : JE kap xi X W a ta ev1) (h2 : JE kap xi X W (.BoolOp .And (b :: rest) pos) tb ev2) : JE kap xi X W (.BoolOp .And (a :: b :: rest) pos) (fun W => tAndV (ta W) (tb W)) (vAndV ev1 ev2) := ⟨pe_and h1.p h2.p, by
  intro W F H sg de O Q R hp
  refine h1.s.bind R hp fun v d F1 H1 de1 O1 R1 g1 r _ hp => ?_
  cases r with
  | bl b =>
    cases b with
    | true => exact ⟨true, rfl, iteT (h2.s W F1 H1 sg de1 O1 Q R1 hp)⟩
    | false => exact ⟨false, rfl, iteF (hp.done R1 New.refl R1.sub (.bl _))⟩
  | _ => exact hp.elim⟩
theorem jNotV (h1 : JE kap xi X W a ta ev1) : JE kap xi X W (.UnaryOp .Not a pos) (fun W => tNotV (ta W)) (vNotV ev1) := ⟨pe_not h1.p, by
  intro W F H sg de O Q R hp
  refine h1.s.bind R hp fun v d F1 H1 de1 O1 R1 g1 r _ hp => ?_
  obtain ⟨z, e, hp⟩ := ofO_some hp
  cases r with
  | bl b => cases e; exact ⟨b, rfl, hp.done R1 New.refl R1.sub (.bl _)⟩
  | _ => cases e⟩
def vIfE (c : DEnv → Rs Bool) (e1 e2 : DEnv → Rs D) (de : DEnv) : Rs D := (c de).bind fun b de' => if b = true then e1 de' else e2 de'
theorem jIfE (hc : JT kap xi X W c t1 b1) (h1 : JE kap xi X W a ta ev1) (h2 : JE kap xi X W b tb ev2) : JE kap xi X W (.IfExp c a b pos) (fun W => tIf (t1 W) (ta W) (tb W)) (vIfE b1 ev1 ev2) := ⟨pe_ifExp hc.p h1.p h2.p, by
  intro W F H sg de O Q R hp
  refine hc.s.bind R hp fun v d F1 H1 de1 O1 R1 g1 r _ hp => ?_
  cases (show v = d from r)
  cases v with
  | true => exact iteT (h1.s W F1 H1 sg de1 O1 Q R1 hp)
  | false => exact iteF (h2.s W F1 H1 sg de1 O1 Q R1 hp)⟩
/-- a < b < c -/
def vCh (f g : D → D → Option D) (oa ob oc : Op) (de : DEnv) : Rs D :=
  (oa.run de).bind fun fa de1 => (ob.run de1).bind fun fb de2 => (ofO ((fa de2).bind fun x => (fb de2).bind fun y => (f x y).bind asB) de2).bind fun k de2 =>
    if k = true then (oc.run de2).bind fun fc de3 => ofO ((fb de3).bind fun y => (fc de3).bind fun z => g y z) de3 else .ok (.bl false) de2
theorem snd_ch {K : PySem.W.Frag} {r r' : R2} {f g : D → D → Option D} (s : SP2 K kap r f) (s' : SP2 K kap r' g) (ha : Snd K kap xi (RlO K kap) ta oa.run) (hb : Snd K kap xi (RlO K kap) tb ob.run) (hc : Snd K kap xi (RlO K kap) tc oc.run) :
    Snd K kap xi (RlE K kap) (fun W => tChain r r' (ta W) (tb W) (tc W)) (vCh f g oa ob oc) := by
  intro W F H sg de O Q R hp
  refine ha.bind R hp fun x fa F1 H1 de1 O1 R1 g1 ra _ hp => ?_
  refine hb.bind R1 hp fun y fb F2 H2 de2 O2 R2 g2 rb _ hp => ?_
  cases eo : (fa de2).bind fun x => (fb de2).bind fun y => (f x y).bind asB with
  | none => rw [eo] at hp; exact hp.elim
  | some k =>
    rw [eo] at hp
    obtain ⟨a, e1, eo⟩ := bind_some eo
    obtain ⟨b, e2, eo⟩ := bind_some eo
    obtain ⟨z, e3, eo⟩ := bind_some eo
    refine s F2 H2 x y a b z _ R2.sub R2.nx (ra xi F2 H2 de2 O2 R2 g2.ex a e1) (rb xi F2 H2 de2 O2 R2 (Same.refl _) b e2) e3 fun v F' H' n sub r => ?_
    refine ⟨k, rep_bl r eo, ?_⟩
    have R' := R2.new n sub
    cases k with
    | false => exact iteF (hp.done R2 n sub (.bl _))
    | true =>
      refine iteT ?_
      have hp' := PE1.shift (n.go (de := de2) (O := O2)) hp
      refine hc.bind R' hp' fun w' fc F3 H3 de3 O3 R3 g3 rc _ hp => ?_
      obtain ⟨z', e, hp⟩ := ofO_some hp
      obtain ⟨y', e4, e⟩ := bind_some e
      obtain ⟨c', e5, e⟩ := bind_some e
      refine s' F3 H3 y w' y' c' z' Q R3.sub R3.nx (rb xi F3 H3 de3 O3 R3 (n.f.trans g3.ex) y' e4) (rc xi F3 H3 de3 O3 R3 (Same.refl _) c' e5) e fun v' F4 H4 n4 sub4 r4 => ?_
      exact hp.done R3 n4 sub4 r4
theorem jCh {op op' : CmpOp} {r r' : R2} {f g : D → D → Option D} (ho : OpR X (compareOp op) r) (ho' : OpR X (compareOp op') r') (s : SP2 X.K kap r f) (s' : SP2 X.K kap r' g) (ha : JO kap xi X W a ta oa) (hb : JO kap xi X W b tb ob) (hc : JO kap xi X W c tc oc)
    (hm : lastMarks [op, op'] [b, c] = false := by with_unfolding_all rfl) : JE kap xi X W (.Compare a [op, op'] [b, c] pos) (fun W => tChain r r' (ta W) (tb W) (tc W)) (vCh f g oa ob oc) := ⟨pe_chain ho ho' ha.p hb.p hc.p hm, snd_ch s s' ha.s hb.s hc.s⟩
/-- by truth -/
def truD : D → Option Bool
  | .non => some false
  | .bl b => some b
  | .int i => some (i != 0)
  | .str s => if s.length ≤ 16777216 then some ((s.length : Int) != 0) else none
  | .tup xs => some (!xs.isEmpty)
  | .lst xs => some (!xs.isEmpty)
  | .scr xs => some (!xs.isEmpty)
  | .dk xs => some (!xs.isEmpty)
  | _ => none
def vTru (oa : Op) (de : DEnv) : Rs Bool := (oa.run de).bind fun fa de1 => ofO ((fa de1).bind truD) de1
theorem empty_of {K : PySem.W.Frag} {F : Hp} {vs : List V} {ds : List D} (r : Reps K kap F vs ds) : vs.isEmpty = ds.isEmpty := by
  cases r <;> rfl
theorem tru_of {K : PySem.W.Frag} {F H : Hp} {v : V} {d : D} {k : Bool} (sub : Same F H) (r : RB K kap F H v d) (h : truD d = some k) : TruV K v H k := by
  unfold truD at h
  split at h
  · cases h; rw [r.non]; rfl
  · cases h; rw [r.bl]; rfl
  · cases h; rw [r.int]; rfl
  · split at h
    · rename_i hl
      cases h; rw [r.str]; exact ⟨by rw [line_eq]; exact hl, rfl⟩
    · cases h
  · cases h
    obtain ⟨p, vs, rfl, h1, r1⟩ := r.tup
    exact .inr (.inl ⟨vs, sqT_mono sub h1, by rw [empty_of r1]⟩)
  · cases h
    obtain ⟨p, vs, rfl, h1, r1⟩ := r.lst sub
    exact .inl ⟨vs, SqL.of h1, by rw [empty_of r1]⟩
  · cases h
    obtain ⟨p, vs, rfl, h1, r1⟩ := r.scr
    exact .inl ⟨vs, sqL_mono sub h1, by rw [empty_of r1]⟩
  · cases h
    obtain ⟨p, kvs, rfl, h1, n1, r1⟩ := r.dk sub
    refine .inr (.inr ⟨kvs, h1, ?_⟩)
    have := empty_of r1
    rw [List.isEmpty_map, List.isEmpty_map] at this
    rw [this]
  · cases h
def tTru (K : PySem.W.Frag) (ta : TE) : TT := fun sg H Q => ta sg H fun x H' => ∃ k, TruV K x H' k ∧ Q k H'
theorem jTru (ha : JO kap xi X W a ta oa) (he : ∀ whole, isTrue a X.env whole = (do let v ← whole; standAt a.pos; holding [v] (truthy v)) := by intro _; rfl) : JT kap xi X W a (fun W => tTru X.K (ta W)) (vTru oa) := ⟨pt_truth ha.p he, by
  intro W F H sg de O Q R hp
  refine ha.s.bind R hp fun x fa F1 H1 de1 O1 R1 g1 ra _ hp => ?_
  obtain ⟨k, e, hp⟩ := ofO_some hp
  obtain ⟨d, e1, e⟩ := bind_some e
  exact ⟨k, tru_of R1.sub (ra xi F1 H1 de1 O1 R1 (Same.refl _) d e1) e, hp.done R1 New.refl R1.sub rfl⟩⟩
end
/-! ### displays -/
def vNil (de : DEnv) : Rs (List D) := .ok [] de
def vCons (ev : DEnv → Rs D) (er : DEnv → Rs (List D)) (de : DEnv) : Rs (List D) := (ev de).bind fun d de1 => (er de1).bind fun ds de2 => .ok (d :: ds) de2
def vTup (ea : DEnv → Rs (List D)) (de : DEnv) : Rs D := (ea de).bind fun ds de1 => if ds.length ≤ 16777216 then .ok (.tup ds) de1 else .bad
def vLst (ea : DEnv → Rs (List D)) (de : DEnv) : Rs D := (ea de).bind fun ds de1 => if ds.length ≤ 16777216 then .ok (.lst ds) de1 else .bad
section
variable {kap : Kp} {xi : Xi} {X : Cx} {W : WX} {e : Expr} {es : List Expr} {t : WX → TE} {ts : WX → TA} {ev : DEnv → Rs D} {er ea : DEnv → Rs (List D)} {pos p : Pos} {x1 : Nat}
theorem jaNil : JA kap xi X W [] (fun _ => tNil) vNil := ⟨pa_nil, fun W F H sg de O Q R hp => hp.done R New.refl R.sub .nil⟩
theorem jaCons (h : JE kap xi X W e t ev) (hr : JA kap xi X W es ts er) (hs : starEach (e :: es) X.env = (false, eval e X.env) :: starEach es X.env := by rfl) : JA kap xi X W (e :: es) (fun W => tCons (t W) (ts W)) (vCons ev er) := ⟨pa_cons h.p hr.p hs, by
  intro W F H sg de O Q R hp
  refine h.s.bind R hp fun v f F1 H1 de1 O1 R1 g1 r _ hp => ?_
  refine hr.s.bind R1 hp fun vs fs F2 H2 de2 O2 R2 g2 rs _ hp => ?_
  exact hp.done R2 New.refl R2.sub (.cons (Rep.mono g2.ex r) rs)⟩
theorem jTup (h : JA kap xi X W es ts ea) : JE kap xi X W (.Tuple es x1 pos) (fun W => tTup (ts W)) (vTup ea) := ⟨pe_tup h.p, by
  intro W F H sg de O Q R hp
  refine h.s.bind R hp fun vs ds F1 H1 de1 O1 R1 g1 r _ hp => ?_
  split at hp
  · rename_i hl
    refine ⟨by rw [line_eq, Reps.length r]; exact hl, fun p hq => ?_⟩
    obtain ⟨n, s2⟩ := New.one (o := .tup vs) R1.sub hq
    exact hp.done R1 n s2 (.tup (SqT.of upd_same) (Reps.mono n.f r))
  · exact hp.elim⟩
theorem jLst (h : JA kap xi X W es ts ea) : JF kap xi X W (.List es pos) (fun W => tLst (ts W)) (vLst ea) := ⟨pe_lst h.p, by
  intro W F H sg de O Q R hp
  refine h.s.bind R hp fun vs ds F1 H1 de1 O1 R1 g1 r _ hp => ?_
  split at hp
  · rename_i hl
    refine ⟨by rw [line_eq, Reps.length r]; exact hl, fun p hq => ?_⟩
    obtain ⟨n, s2⟩ := new_fresh (o := .lst vs) R1.sub hq
    exact hp.done R1 n s2 (fresh_new R1 n s2 hq ⟨_, upd_same, r⟩) fun p' e => by cases e; exact hq
  · exact hp.elim⟩
end
/-! ### fields -/
def fFld (cl : List Nat) (f : Str) : D → Option D
  | .obj c fs => if cl.contains c then fs.lookup f else none
  | _ => none
def vFld (cl : List Nat) (f : Str) (oa : Op) (de : DEnv) : Rs D := vO1 (fFld cl f) oa de
section
variable {kap : Kp} {xi : Xi} {X : Cx} {W : WX} {e : Expr} {t : WX → TE} {o : Op} {pos : Pos}
theorem jFld (cl : List Nat) {f : Str} (hc : ∀ c ∈ cl, Cls X.K (kap c) ∧ NoAttr X.K (kap c) f) (h : JO kap xi X W e t o) (hb : attributeBase e f X.env (eval e X.env) = eval e X.env := by rfl) : JE kap xi X W (.Attribute e f pos) (fun W => tFld X.K (t W) f) (vFld cl f o) := ⟨pe_fld h.p hb, by
  intro W F H sg de O Q R hp
  refine h.s.bind R hp fun x fa F1 H1 de1 O1 R1 g1 ra _ hp => ?_
  obtain ⟨z, e, hp⟩ := ofO_some hp
  obtain ⟨d, e1, e⟩ := bind_some e
  have rd := ra xi F1 H1 de1 O1 R1 (Same.refl _) d e1
  unfold fFld at e
  split at e
  · split at e
    · rename_i c fs hm
      obtain ⟨a, dx, vs, rfl, h1, n1, r1⟩ := rd.obj R1.sub
      obtain ⟨v, g1, g2⟩ := field_get n1 r1 e
      obtain ⟨k1, k2⟩ := hc c (List.contains_iff_mem.mp hm)
      exact ⟨a, _, dx, vs, v, rfl, h1, k1, k2, g1, hp.done R1 New.refl R1.sub g2⟩
    · cases e
  · cases e⟩
end
/-! ### slices -/
def vNoP (de : DEnv) : Rs (Option Int) := .ok none de
def asI : D → Option Int
  | .int i => some i
  | _ => none
def vPart (ev : DEnv → Rs D) (de : DEnv) : Rs (Option Int) := (ev de).bind fun d de' => ofO ((asI d).map some) de'
structure JP (kap : Kp) (xi : Xi) (X : Cx) (W : WX) (e : Option Expr) (t : WX → TO) (ev : DEnv → Rs (Option Int)) : Prop where
  p : PO X e (t W)
  s : Snd X.K kap xi (RlQ (Option Int)) t ev
def cutD (xs : List D) (lo hi : Option Int) : List D := (xs.drop (HT.sIx xs.length 0 lo)).take (HT.sIx xs.length xs.length hi - HT.sIx xs.length 0 lo)
def fSlL : D → Option Int → Option Int → Option D
  | .lst xs, lo, hi => some (.lst (cutD xs lo hi))
  | .scr xs, lo, hi => some (.lst (cutD xs lo hi))
  | _, _, _ => none
def vSl (f : D → Option Int → Option Int → Option D) (o : Op) (e1 e2 : DEnv → Rs (Option Int)) (de : DEnv) : Rs D :=
  (o.run de).bind fun fa de1 => (e1 de1).bind fun l de2 => (e2 de2).bind fun u de3 => ofO ((fa de3).bind fun d => f d l u) de3
section
variable {kap : Kp} {xi : Xi} {X : Cx} {W : WX} {e : Expr} {t : WX → TE} {o : Op} {ev : DEnv → Rs D} {pos p2 : Pos} {lo hi : Option Expr} {tl th : WX → TO} {e1 e2 : DEnv → Rs (Option Int)}
theorem rep_int {K : PySem.W.Frag} {F : Hp} {v : V} {d : D} {i : Int} (r : Rep K kap F v d) (h : asI d = some i) : v = .int i := by
  cases r with
  | int j => cases h; rfl
  | _ => cases h
theorem jNoP : JP kap xi X W none (fun _ => tNoPart) vNoP := ⟨po_none, fun W F H sg de O Q R hp => hp.done R New.refl R.sub rfl⟩
theorem jPart (h : JE kap xi X W e t ev) : JP kap xi X W (some e) (fun W => tPart (t W)) (vPart ev) := ⟨po_some h.p, by
  intro W F H sg de O Q R hp
  refine h.s.bind R hp fun v d F1 H1 de1 O1 R1 g1 r _ hp => ?_
  obtain ⟨z, e, hp⟩ := ofO_some hp
  obtain ⟨i, e1, e2⟩ := Option.map_eq_some_iff.mp e
  cases e2
  exact ⟨i, rep_int r e1, hp.done R1 New.refl R1.sub rfl⟩⟩
theorem Reps.cut {K : PySem.W.Frag} {F : Hp} {vs : List V} {ds : List D} (r : Reps K kap F vs ds) (lo hi : Option Int) : Reps K kap F (cutV vs lo hi) (cutD ds lo hi) := by
  unfold cutV cutD
  rw [r.length]
  exact (r.drop _).take _
theorem cut_whole (ds : List D) (lo hi : Option Int) (h : HT.sIx ds.length 0 lo = 0 ∧ HT.sIx ds.length ds.length hi = ds.length) : cutD ds lo hi = ds := by
  unfold cutD
  rw [h.1, h.2]
  simp
end
/-! ### isinstance -/
def tyOf : D → Option Ty
  | .non => some (.b "NoneType")
  | .bl _ => some (.b "bool")
  | .int _ => some (.b "int")
  | .str _ => some (.b "str")
  | .tup _ => some (.b "tuple")
  | .lst _ => some (.b "list")
  | .dk _ => some (.b "dict")
  | .dn _ => some (.b "dict")
  | .obj c _ => some (.o c)
  | _ => none
def isi : Ty → Ty → Bool
  | .b S, .b T => S == T || (S == "bool" && T == "int")
  | .o c, .o c' => c == c'
  | _, _ => false
def bCls : List String := ["bool", "int", "str", "tuple", "list", "dict"]
def tyN : Ty → Bool
  | .b T => T == "NoneType"
  | .o _ => false
def tyIn (cs : List Nat) : Ty → Bool
  | .b T => bCls.contains T
  | .o c => cs.contains c
/-- cs: the own classes whose instances may come -/
def fIsi (cs : List Nat) : List D → Option D
  | [d, .cls t] => (tyOf d).bind fun s => if (tyIn cs s || tyN s) && tyIn cs t then some (.bl (isi s t)) else none
  | _ => none
/-- what the top has made of an own class whose instances are frozen -/
structure KitC (K : PySem.W.Frag) (C : Addr) : Prop where
  cl : Cls K C
  ha : PySem.W.findIn K (.ref C) "__class__" = some (some (.builtin "object.__class__"))
  hn : PySem.W.specialIn K (.builtin "object.__class__") "__get__" = some (some (.builtin "getset_descriptor.__get__"))
  ht : PySem.W.takesIn K (.builtin "object.__class__") = some true
  hm : PySem.W.mroIn K C (.type "object") = some true
  ic : PySem.W.isClsIn K C = true
  ty : PySem.W.typeIn K (.ref C) = some (.type "type")
  mb : ∀ T ∈ bCls, PySem.W.mroIn K C (.type T) = some false
structure KitK (K : PySem.W.Frag) (kap : Kp) (cs : List Nat) : Prop where
  all : ∀ c ∈ cs, KitC K (kap c)
  mo : ∀ c ∈ cs, ∀ c' ∈ cs, c ≠ c' → PySem.W.mroIn K (kap c) (.ref (kap c')) = some false ∧ kap c ≠ kap c'
def tyVal (kap : Kp) : Ty → Value
  | .b T => .type T
  | .o c => .ref (kap c)
theorem kit_bb : ∀ S ∈ "NoneType" :: bCls, ∀ T ∈ bCls, ∀ K : PySem.W.Frag, PySem.W.kitOne K (.type S) (.type T) = some (S == T || (S == "bool" && T == "int")) := by
  intro S hS T hT K
  have h : ∀ S ∈ "NoneType" :: bCls, ∀ T ∈ bCls, PySem.W.kitOne [] (.type S) (.type T) = some (S == T || (S == "bool" && T == "int")) := by decide +kernel
  exact h S hS T hT
def isTy : Value → Bool
  | .type _ => true
  | _ => false
theorem mro_ty : ∀ S ∈ "NoneType" :: bCls, (PySem.fastBuiltinMro S).elim false (·.all isTy) = true := by decide +kernel
theorem sub_bo (K : PySem.W.Frag) (C : Addr) : ∀ S ∈ "NoneType" :: bCls, PySem.W.subIn K (.type S) (.ref C) = some false := by
  intro S hS
  have h := mro_ty S hS
  show (PySem.fastBuiltinMro S).map (·.contains (.ref C)) = some false
  cases e : PySem.fastBuiltinMro S with
  | none => rw [e] at h; cases h
  | some l =>
    rw [e] at h
    have h' : l.all isTy = true := h
    show some (l.contains (.ref C)) = some false
    congr 1
    rw [List.all_eq_true] at h'
    cases z : l.contains (.ref C) with
    | false => rfl
    | true =>
      have := h' _ (List.contains_iff_mem.mp z)
      cases this
theorem kit_meta : ∀ T ∈ bCls, PySem.W.kitMeta T = true := by decide +kernel
theorem kit_ans {K : PySem.W.Frag} {kap : Kp} {cs : List Nat} (k : KitK K kap cs) {s t : Ty} (hs : (tyIn cs s || tyN s) = true) (ht : tyIn cs t = true) : PySem.W.kitOne K (tyVal kap s) (tyVal kap t) = some (isi s t) := by
  have hsb : ∀ S, s = .b S → S ∈ "NoneType" :: bCls := fun S e => by
    subst e
    rw [Bool.or_eq_true] at hs
    rcases hs with h | h
    · exact List.mem_cons_of_mem _ (List.contains_iff_mem.mp h)
    · have e : S = "NoneType" := by simpa [tyN] using h
      rw [e]; exact List.mem_cons_self ..
  have hso : ∀ c, s = .o c → c ∈ cs := fun c e => by
    subst e
    rw [Bool.or_eq_true] at hs
    rcases hs with h | h
    · exact List.contains_iff_mem.mp h
    · cases h
  cases t with
  | b T =>
    have hT : T ∈ bCls := List.contains_iff_mem.mp ht
    cases s with
    | b S => exact kit_bb S (hsb S rfl) T hT K
    | o c =>
      show (if (Value.ref (kap c) == Value.type T) = true then some true else PySem.W.kitCls K (.ref (kap c)) (.type T)) = some false
      rw [if_neg (by intro z; cases z)]
      show (if PySem.W.kitMeta T = true then PySem.W.subIn K (.ref (kap c)) (.type T) else none) = some false
      rw [if_pos (kit_meta T hT)]
      exact (k.all c (hso c rfl)).mb T hT
  | o c' =>
    have hc' : c' ∈ cs := List.contains_iff_mem.mp ht
    have kc := k.all c' hc'
    have e1 : ((PySem.W.clsIn K (kap c')).isSome && PySem.W.typeIn K (.ref (kap c')) == some (.type "type")) = true := by
      have h1 : (PySem.W.clsIn K (kap c')).isSome = true := kc.ic
      rw [h1, kc.ty]
      rfl
    cases s with
    | b S =>
      show (if (Value.type S == Value.ref (kap c')) = true then some true else PySem.W.kitCls K (.type S) (.ref (kap c'))) = some false
      rw [if_neg (by intro z; cases z)]
      show (if ((PySem.W.clsIn K (kap c')).isSome && PySem.W.typeIn K (.ref (kap c')) == some (.type "type")) = true then PySem.W.subIn K (.type S) (.ref (kap c')) else none) = some false
      rw [if_pos e1]
      exact sub_bo K _ S (hsb S rfl)
    | o c =>
      show (if (Value.ref (kap c) == Value.ref (kap c')) = true then some true else PySem.W.kitCls K (.ref (kap c)) (.ref (kap c'))) = some (c == c')
      by_cases q : c = c'
      · subst q
        rw [if_pos (by simp)]
        simp
      · obtain ⟨m1, m2⟩ := k.mo c (hso c rfl) c' hc' q
        rw [if_neg (by simp [m2])]
        show (if ((PySem.W.clsIn K (kap c')).isSome && PySem.W.typeIn K (.ref (kap c')) == some (.type "type")) = true then PySem.W.subIn K (.ref (kap c)) (.ref (kap c')) else none) = some (c == c')
        rw [if_pos e1]
        have : (c == c') = false := by simpa using q
        rw [this]
        exact m1
theorem tyx_of {K : PySem.W.Frag} {kap : Kp} {cs : List Nat} (k : KitK K kap cs) {F H : Hp} {v : V} {d : D} {s : Ty} (sub : Same F H) (r : RB K kap F H v d) (h : tyOf d = some s) (hs : (tyIn cs s || tyN s) = true) : TyY K H v (tyVal kap s) := by
  cases d with
  | non => cases h; rw [r.non]; exact .x <| .base .non
  | bl b => cases h; rw [r.bl]; exact .x <| .base (.bl _)
  | int i => cases h; rw [r.int]; exact .x <| .base (.int _)
  | str x => cases h; rw [r.str]; exact .x <| .base (.str _)
  | tup xs =>
    cases h
    obtain ⟨p, vs, rfl, h1, r1⟩ := r.tup
    rcases sqT_mono sub h1 with (h1 | ⟨o, h1⟩) | ⟨o, its, n, h1, h2, _⟩
    · exact .x <| .base (.tup h1)
    · exact .x <| .fTuple h1
    · exact .x <| .kTuple h1 h2
  | lst xs => cases h; obtain ⟨p, vs, rfl, h1, r1⟩ := r.lst sub; exact .x <| .base (.lst h1)
  | scr xs => cases h
  | dk xs => cases h; obtain ⟨p, vs, rfl, h1, r1⟩ := r.dk sub; exact .x <| .base (.dK h1)
  | dn xs => cases h; obtain ⟨p, o, es, vs, rfl, h1, h2, _⟩ := r.dn sub; exact .ex h1 h2.ex.1
  | obj c fs =>
    cases h
    obtain ⟨a, dx, vs, rfl, h1, n1, r1⟩ := r.obj sub
    have hc : c ∈ cs := by
      rw [Bool.or_eq_true] at hs
      rcases hs with h | h
      · exact List.contains_iff_mem.mp h
      · cases h
    have kc := k.all c hc
    exact .x <| .base (.ins h1 kc.cl kc.ha kc.hn kc.ht kc.hm)
  | cls t => cases h
  | fn j ds => cases h
  | any => cases h
theorem rep_cls {K : PySem.W.Frag} {kap : Kp} {F H : Hp} {v : V} {t : Ty} (r : RB K kap F H v (.cls t)) : ClsV v (tyVal kap t) := by
  rcases r with r | ⟨p, _, _, h⟩
  · cases r with
    | clsB T => exact .ty T
    | clsO c => exact .own _
  · exact h.elim
theorem sp_isi {K : PySem.W.Frag} {kap : Kp} {cs : List Nat} (k : KitK K kap cs) : SPN K kap (rIsiA K) (fIsi cs) := by
  intro F H xs as z Q sub nt ra e q
  unfold fIsi at e
  split at e
  · rename_i d t
    obtain ⟨s, e1, e⟩ := bind_some e
    split at e
    · rename_i hh
      rw [Bool.and_eq_true] at hh
      cases e
      obtain ⟨x, y, rfl, r1, r2⟩ := two_of ra
      exact ⟨x, y, _, _, _, rfl, rep_cls r2, tyx_of k sub r1 e1 hh.1, kit_ans k hh.1 hh.2, q _ F H New.refl sub (.bl _)⟩
    · cases e
  · cases e
end DL
set_option maxRecDepth 100000
set_option maxHeartbeats 2000000
set_option autoImplicit false
namespace DL
open PySem L2
/-! ### slots are stored -/
section
variable {K : PySem.W.Frag} {kap : Kp} {xi : Xi} {F H : Hp} {sg : St} {de : DEnv} {O : Own?}
def putO (O : Own?) (n i : Nat) (q : Option Addr) : Own? := fun j => if j = i ∧ i < n then q else O j
theorem set_get {α : Type} {l : List α} {i j : Nat} {s t : α} (h : (l.set i s)[j]? = some t) : (j = i ∧ i < l.length ∧ t = s) ∨ ((j ≠ i ∨ l.length ≤ i) ∧ l[j]? = some t) := by
  by_cases q : j = i
  · subst q
    by_cases il : j < l.length
    · rw [List.getElem?_set_self il] at h
      cases h
      exact .inl ⟨rfl, il, rfl⟩
    · rw [List.set_eq_of_length_le (Nat.le_of_not_lt il)] at h
      exact .inr ⟨.inr (Nat.le_of_not_lt il), h⟩
  · rw [List.getElem?_set_ne (Ne.symm q)] at h
    exact .inr ⟨.inl q, h⟩
theorem putO_other {O : Own?} {n i j : Nat} {q : Option Addr} (h : j ≠ i ∨ n ≤ i) : putO O n i q j = O j := by
  unfold putO
  rw [if_neg]
  rintro ⟨h1, h2⟩
  rcases h with h | h
  · exact h h1
  · exact absurd h2 (Nat.not_lt.mpr h)
theorem putO_same {O : Own?} {n i : Nat} {q : Option Addr} (h : i < n) : putO O n i q i = q := by
  unfold putO
  rw [if_pos ⟨rfl, h⟩]
theorem RS.put (R : RS K kap xi F H sg de O) (i : Nat) (x : Option V) (s : Sl) (q : Option Addr)
    (hva : ∀ d, s = .va d → ∃ v, x = some v ∧ Rep K kap F v d)
    (how : ∀ d, s.owd = some d → ∃ p, q = some p ∧ x = some (.ref p) ∧ F p = none ∧ Own K kap F H p d ∧ ∀ j, j ≠ i → O j ≠ some p)
    (hex : ∀ c fs, s = .ex c fs → ∃ (a : Addr) (d : Option Addr), xi = some (.inl (a, Value.ref (kap c), d)) ∧ x = some (.ref a) ∧ XR K kap F d fs)
    (hq : s.owd = none → q = none) (hpl : s.plain = true := by rfl) : RS K kap xi F H (sg.set i x) (de.set i s) (putO O de.length i q) := by
  have sgl : ∀ {j : Nat} {y : V}, (j ≠ i ∨ de.length ≤ i) → sg[j]? = some (some y) → (sg.set i x)[j]? = some (some y) := fun {j y} h e => by
    by_cases z : j = i
    · rcases h with h | h
      · exact absurd z h
      · rw [List.set_eq_of_length_le (by rw [R.len]; exact h)]; exact e
    · rw [List.getElem?_set_ne (Ne.symm z)]; exact e
  have sgs : i < de.length → (sg.set i x)[i]? = some x := fun h => List.getElem?_set_self (by rw [R.len]; exact h)
  refine ⟨by rw [List.length_set, List.length_set]; exact R.len, fun j d e => ?_, fun j t d e h => ?_, fun j c fs e => ?_, fun j p e => ?_, fun j k p e1 e2 => ?_, R.sub, R.nt, R.tab, fun j d e => ?_, R.ghs (Same.refl F) (fun j t d p _ _ h3 => ⟨(R.held h3).1, rfl⟩) fun j t d e h => ?_⟩
  · rcases set_get e with ⟨rfl, il, z⟩ | ⟨n, e⟩
    · obtain ⟨v, h1, h2⟩ := hva d z.symm
      exact ⟨v, by rw [sgs il, h1], h2⟩
    · obtain ⟨v, h1, h2⟩ := R.va j d e
      exact ⟨v, sgl n h1, h2⟩
  · rcases set_get e with ⟨rfl, il, z⟩ | ⟨n, e⟩
    · subst z
      obtain ⟨p, h1, h2, h3, h4, _⟩ := how d h
      exact ⟨p, by rw [putO_same il, h1], by rw [sgs il, h2], h3, h4⟩
    · obtain ⟨p, h1, h2, h3, h4⟩ := R.ow j t d e h
      exact ⟨p, by rw [putO_other n, h1], sgl n h2, h3, h4⟩
  · rcases set_get e with ⟨rfl, il, z⟩ | ⟨n, e⟩
    · obtain ⟨a, d, h1, h2, h3⟩ := hex c fs z.symm
      exact ⟨a, d, h1, by rw [sgs il, h2], h3⟩
    · obtain ⟨a, d, h1, h2, h3⟩ := R.ex j c fs e
      exact ⟨a, d, h1, sgl n h2, h3⟩
  · by_cases z : j = i ∧ i < de.length
    · obtain ⟨rfl, il⟩ := z
      rw [putO_same il] at e
      cases ed : s.owd with
      | none => rw [hq ed] at e; cases e
      | some d => exact ⟨s, d, List.getElem?_set_self il, by rw [(Sl.plain_gh hpl).2, ed]⟩
    · have n : j ≠ i ∨ de.length ≤ i := by
        by_cases w : j = i
        · exact .inr (Nat.le_of_not_lt fun h => z ⟨w, h⟩)
        · exact .inl w
      rw [putO_other n] at e
      obtain ⟨t, d, h1, h2⟩ := R.onl j p e
      refine ⟨t, d, ?_, h2⟩
      rcases n with n | n
      · rw [List.getElem?_set_ne (Ne.symm n)]; exact h1
      · rw [List.set_eq_of_length_le n]; exact h1
  · have key : ∀ {a b : Nat} {p : Addr}, (a = i ∧ i < de.length) → ¬ (b = i ∧ i < de.length) → putO O de.length i q a = some p → putO O de.length i q b = some p → False := fun {a b p} ha hb e1 e2 => by
      obtain ⟨rfl, il⟩ := ha
      rw [putO_same il] at e1
      have nb : b ≠ a := fun z => hb ⟨z, il⟩
      rw [putO_other (.inl nb)] at e2
      cases ed : s.owd with
      | none => rw [hq ed] at e1; cases e1
      | some d =>
        obtain ⟨p', h1, _, _, _, h5⟩ := how d ed
        rw [h1] at e1
        cases e1
        exact h5 b nb e2
    by_cases zj : j = i ∧ i < de.length
    · by_cases zk : k = i ∧ i < de.length
      · rw [zj.1, zk.1]
      · exact (key zj zk e1 e2).elim
    · by_cases zk : k = i ∧ i < de.length
      · exact (key zk zj e2 e1).elim
      · have nn : ∀ {a : Nat}, ¬ (a = i ∧ i < de.length) → a ≠ i ∨ de.length ≤ i := fun {a} z => by
          by_cases w : a = i
          · exact .inr (Nat.le_of_not_lt fun h => z ⟨w, h⟩)
          · exact .inl w
        rw [putO_other (nn zj)] at e1
        rw [putO_other (nn zk)] at e2
        exact R.inj j k p e1 e2
  · rcases set_get e with ⟨rfl, il, z⟩ | ⟨n, e⟩
    · rw [← z] at hpl; cases hpl
    · obtain ⟨me, h1, h2, h3⟩ := R.cn j d e
      exact ⟨me, h1, sgl n h2, h3⟩
  · rcases set_get e with ⟨rfl, il, z⟩ | ⟨n, e⟩
    · rw [z, (Sl.plain_gh hpl).1] at h; cases h
    · exact ⟨e, putO_other n⟩
theorem Go.put {F H : Hp} {de : DEnv} {O : Own?} (i : Nat) (s : Sl) (q : Option Addr) (hs : ∀ d, s ≠ .pn d) (hq : ∀ p, q = some p → (∃ j, O j = some p) ∨ H p = none) : Go F H de O F H (de.set i s) (putO O de.length i q) where
  ex := Same.refl F
  keep := fun _ _ h _ _ => h
  new := fun j a e => by
    unfold putO at e
    split at e
    · exact hq a e
    · exact .inl ⟨j, e⟩
  dom := fun _ h => h
  fnew := fun _ h => .inl h
  pin := fun j d e => by
    rcases set_get e with ⟨rfl, il, z⟩ | ⟨n, e⟩
    · exact absurd z.symm (hs d)
    · exact ⟨putO_other n, d, e⟩
theorem RS.setv (R : RS K kap xi F H sg de O) (i : Nat) {v : V} {d : D} (r : Rep K kap F v d) : RS K kap xi F H (sg.set i (some v)) (de.set i (.va d)) (putO O de.length i none) ∧ Go F H de O F H (de.set i (.va d)) (putO O de.length i none) :=
  ⟨R.put i _ _ none (fun d' e => by cases e; exact ⟨v, rfl, r⟩) (fun _ e => by cases e) (fun _ _ e => by cases e) fun _ => rfl, Go.put i _ none (fun _ e => by cases e) fun _ e => by cases e⟩
/-- an owned object is changed -/
def Sl.same (s : Sl) (d : D) : Sl := match s with
  | .pn _ => .pn d
  | _ => .ow d
theorem RS.mut (R : RS K kap xi F H sg de O) {i : Nat} {s : Sl} {d d' : D} {p : Addr} {o : HO} (hi : de[i]? = some s) (hs : s.owd = some d) (hp : O i = some p) (ho : Own K kap F (upd H p o) p d') :
    RS K kap xi F (upd H p o) sg (de.set i (s.same d')) O ∧ Go F H de O F (upd H p o) (de.set i (s.same d')) O := by
  have il : i < de.length := (List.getElem?_eq_some_iff.mp hi).1
  obtain ⟨p', g1, g2, g3, g4⟩ := R.ow i s d hi hs
  rw [hp] at g1
  cases g1
  have hsd : (s.same d').owd = some d' := by
    cases s with
    | ow d0 => rfl
    | pn d0 => rfl
    | _ => cases hs
  have neq : ∀ a u, F a = some u → a ≠ p := fun a u e z => by rw [z, g3] at e; cases e
  refine ⟨⟨by rw [List.length_set]; exact R.len, fun j e h => ?_, fun j t e h1 h2 => ?_, fun j c fs h => ?_, fun j q h => ?_, R.inj, fun a u e => by rw [upd_ne (neq a u e)]; exact R.sub a u e, R.nt, g4.tabs ho R.tab, fun j e h => ?_, R.ghs (Same.refl F) (fun j t e q h1 h2 h3 => ⟨(R.held h3).1, upd_ne fun z => ?_⟩) fun j t e h1 h2 => ?_⟩, ⟨Same.refl F, fun a u h _ n => ?_, fun j a h => .inl ⟨j, h⟩, fun a h => ?_, fun _ h => .inl h, fun j e h => ?_⟩⟩
  · rcases set_get h with ⟨rfl, _, z⟩ | ⟨n, h⟩
    · exfalso; rw [← z] at hsd; cases hsd
    · exact R.va j e h
  · rcases set_get h1 with ⟨rfl, _, z⟩ | ⟨n, h1⟩
    · rw [z, hsd] at h2
      cases h2
      exact ⟨p, hp, g2, g3, ho⟩
    · obtain ⟨q, k1, k2, k3, k4⟩ := R.ow j t e h1 h2
      have : q ≠ p := fun z => by
        have : j = i := R.inj j i p (by rw [k1, z]) hp
        rcases n with n | n
        · exact n this
        · exact absurd il (Nat.not_lt.mpr n)
      exact ⟨q, k1, k2, k3, k4.mono (Same.refl F) (upd_ne this)⟩
  · rcases set_get h with ⟨rfl, _, z⟩ | ⟨n, h⟩
    · exfalso; rw [← z] at hsd; cases hsd
    · exact R.ex j c fs h
  · obtain ⟨t, e, h1, h2⟩ := R.onl j q h
    by_cases z : j = i
    · subst z
      exact ⟨s.same d', d', List.getElem?_set_self il, Sl.hld_of (.inl hsd)⟩
    · exact ⟨t, e, by rw [List.getElem?_set_ne (Ne.symm z)]; exact h1, h2⟩
  · rcases set_get h with ⟨rfl, _, z⟩ | ⟨n, h⟩
    · exfalso; rw [← z] at hsd; cases hsd
    · exact R.cn j e h
  · have := R.inj j i p (by rw [h3, z]) hp
    subst this
    rw [hi] at h1
    cases h1
    cases s with
    | ow d0 => cases h2
    | pn d0 => cases h2
    | _ => cases hs
  · rcases set_get h1 with ⟨rfl, _, z⟩ | ⟨n, h1⟩
    · exfalso; rw [z] at h2; cases s with
      | ow d0 => cases h2
      | pn d0 => cases h2
      | _ => cases hs
    · exact ⟨h1, rfl⟩
  · rw [upd_ne fun z => n i (by rw [hp, z])]; exact h
  · by_cases z : a = p
    · subst z; rw [upd_same] at h; cases h
    · rw [upd_ne z] at h; exact h
  · rcases set_get h with ⟨rfl, _, z⟩ | ⟨n, h⟩
    · refine ⟨rfl, ?_⟩
      cases s with
      | pn d0 => exact ⟨d0, hi⟩
      | _ => cases z
    · exact ⟨rfl, e, h⟩
end
/-! ### statements -/
def vSkip (de : DEnv) : Ot := .nx de
def vSeq (e1 e2 : DEnv → Ot) (de : DEnv) : Ot := (e1 de).andThen e2
def vSet (i : Nat) (ev : DEnv → Rs D) (de : DEnv) : Ot := (ev de).out fun d de' => .nx (de'.set i (.va d))
def vSetF (i : Nat) (ev : DEnv → Rs D) (de : DEnv) : Ot := (ev de).out fun d de' => .nx (de'.set i (.ow d))
def vExpr (ev : DEnv → Rs D) (de : DEnv) : Ot := (ev de).out fun _ de' => .nx de'
def vIf (c : DEnv → Rs Bool) (e1 e2 : DEnv → Ot) (de : DEnv) : Ot := (c de).out fun b de' => if b = true then e1 de' else e2 de'
def vRet (ev : DEnv → Rs D) (de : DEnv) : Ot := (ev de).out fun d de' => .ret d de'
def vRetF (ev : DEnv → Rs D) (de : DEnv) : Ot := (ev de).out fun d de' => .retF d de'
def vRetN (de : DEnv) : Ot := .ret .non de
/-- an owned local is handed out -/
def vMove (i : Nat) (de : DEnv) : Rs D := match de[i]? with
  | some (.ow d) => .ok d (de.set i .no)
  | _ => .bad
section
variable {kap : Kp} {xi : Xi} {X : Cx} {W : WX} {e c : Expr} {st : Stmt} {sts a b : List Stmt} {t : WX → TE} {tc : WX → TT} {ts tr : WX → TS} {ev : DEnv → Rs D} {bv : DEnv → Rs Bool} {e1 e2 : DEnv → Ot} {pos : Pos}
theorem jssNil : JSs kap xi X W [] (fun _ => tNext) vSkip := ⟨pss_nil, fun W F H sg de O Dn R hp => hp F H sg O R Go.refl⟩
theorem snd_seq {K : PySem.W.Frag} (h1 : SndS K kap xi ts e1) (h2 : SndS K kap xi tr e2) : SndS K kap xi (fun W => tSeq (ts W) (tr W)) (vSeq e1 e2) := by
  intro W F H sg de O Dn R hp
  refine h1 W F H sg de O _ R ?_
  unfold vSeq at hp
  cases e : e1 de with
  | nx de1 => rw [e] at hp; exact fun F' H' sg' O' R' g => h2 W F' H' sg' de1 O' Dn R' (hp.shift g)
  | ret d de1 => rw [e] at hp; exact hp
  | retF d de1 => rw [e] at hp; exact hp
  | brk de1 => rw [e] at hp; exact hp
  | ct de1 => rw [e] at hp; exact hp
  | ex c fs de1 => rw [e] at hp; exact hp
  | bad => rw [e] at hp; exact hp
theorem jssCons (h1 : JS kap xi X W st ts e1) (h2 : JSs kap xi X W sts tr e2) : JSs kap xi X W (st :: sts) (fun W => tSeq (ts W) (tr W)) (vSeq e1 e2) := ⟨pss_cons h1.p h2.p, snd_seq h1.s h2.s⟩
theorem jssOne (h1 : JS kap xi X W st ts e1) : JSs kap xi X W [st] ts e1 := ⟨pss_one h1.p, h1.s⟩
theorem jSet (i : Nat) {x : Str} {pos' : Pos} (hN : X.N.Nodup) (h : JE kap xi X W e t ev) (hi : X.N[i]? = some x := by rfl) (hx : Loc X.env.scope x := by first | exact Or.inl rfl | exact Or.inr rfl) (hs : swapsWith e (some (.Name x pos')) pos.line X.env = pure false := by rfl)
    (hf : X.fn x = true ∨ X.env.scope.names.lookup x = some .local := by first | exact .inl rfl | exact .inr rfl | assumption) : JS kap xi X W (.Assign [.Name x pos'] e pos) (fun W => tAsg (t W) (gName i)) (vSet i ev) := ⟨ps_set hN hi hx h.p hs hf, by
  intro W F H sg de O Dn R hp
  refine h.s.out R hp fun v d F1 H1 de1 O1 R1 g1 r _ hp => ?_
  obtain ⟨R2, g2⟩ := R1.setv i r
  exact hp F1 H1 _ _ R2 g2⟩
theorem jSetF (i : Nat) {x : Str} {pos' : Pos} (hN : X.N.Nodup) (h : JF kap xi X W e t ev) (hi : X.N[i]? = some x := by rfl) (hx : Loc X.env.scope x := by first | exact Or.inl rfl | exact Or.inr rfl) (hs : swapsWith e (some (.Name x pos')) pos.line X.env = pure false := by rfl)
    (hf : X.fn x = true ∨ X.env.scope.names.lookup x = some .local := by first | exact .inl rfl | exact .inr rfl | assumption) : JS kap xi X W (.Assign [.Name x pos'] e pos) (fun W => tAsg (t W) (gName i)) (vSetF i ev) := ⟨ps_set hN hi hx h.p hs hf, by
  intro W F H sg de O Dn R hp
  refine h.s W F H sg de O _ R ?_
  unfold vSetF at hp
  cases e : ev de with
  | ok d de1 =>
    rw [e] at hp
    intro v F1 H1 O1 R1 g1 r org
    obtain ⟨p, rfl, f1, f2, f3⟩ := r
    have hp' : PS1 X.K kap xi F H de O W Dn (.nx (de1.set i (.ow d))) := hp
    have R2 := R1.put i (some (.ref p)) (.ow d) (some p) (fun d' e => by cases e) (fun d' e => by cases e; exact ⟨p, rfl, rfl, f1, f2, fun j _ => f3 j⟩) (fun _ _ e => by cases e) (fun e => by cases e)
    refine hp' F1 H1 _ _ R2 ⟨g1.ex, g1.keep, fun j a z => ?_, g1.dom, g1.fnew, fun j d' z => ?_⟩
    · unfold putO at z
      split at z
      · cases z; exact (org _ rfl).symm
      · exact g1.new j a z
    · rcases set_get z with ⟨rfl, il, z⟩ | ⟨n, z⟩
      · cases z
      · rw [putO_other n]; exact g1.pin j d' z
  | ex c fs de1 => rw [e] at hp; exact hp
  | bad => rw [e] at hp; exact hp⟩
theorem jExpr (h : JE kap xi X W e t ev) (hs : swapsWith e none pos.line X.env = pure false := by rfl) : JS kap xi X W (.Expr e pos) (fun W => tDrop (t W)) (vExpr ev) := ⟨ps_expr h.p hs, by
  intro W F H sg de O Dn R hp
  refine h.s.out R hp fun v d F1 H1 de1 O1 R1 g1 r _ hp => ?_
  exact hp F1 H1 _ _ R1 Go.refl⟩
theorem jIf (hc : JT kap xi X W c tc bv) (h1 : JSs kap xi X W a ts e1) (h2 : JSs kap xi X W b tr e2) : JS kap xi X W (.If c a b pos) (fun W => tIfS (tc W) (ts W) (tr W)) (vIf bv e1 e2) := ⟨ps_if hc.p h1.p h2.p, by
  intro W F H sg de O Dn R hp
  refine hc.s.out R hp fun v d F1 H1 de1 O1 R1 g1 r _ hp => ?_
  cases (show v = d from r)
  cases v with
  | true => exact iteT (h1.s W F1 H1 sg de1 O1 Dn R1 hp)
  | false => exact iteF (h2.s W F1 H1 sg de1 O1 Dn R1 hp)⟩
theorem jRet (h : JE kap xi X W e t ev) : JS kap xi X W (.Return (some e) pos) (fun W => tRet (t W)) (vRet ev) := ⟨ps_ret h.p, by
  intro W F H sg de O Dn R hp
  refine h.s.out R hp fun v d F1 H1 de1 O1 R1 g1 r _ hp => ?_
  exact hp v F1 H1 sg O1 R1 Go.refl r⟩
theorem jRetF (h : JF kap xi X W e t ev) : JS kap xi X W (.Return (some e) pos) (fun W => tRet (t W)) (vRetF ev) := ⟨ps_ret h.p, by
  intro W F H sg de O Dn R hp
  refine h.s W F H sg de O _ R ?_
  unfold vRetF at hp
  cases e : ev de with
  | ok d de1 =>
    rw [e] at hp
    intro v F1 H1 O1 R1 g1 r org
    exact hp v F1 H1 sg O1 R1 g1 r org
  | ex c fs de1 => rw [e] at hp; exact hp
  | bad => rw [e] at hp; exact hp⟩
theorem jMove (i : Nat) {x : Str} (hN : X.N[i]? = some x := by rfl) (hv : Vis X.env.scope x := by first | exact Or.inl rfl | exact Or.inr (Or.inl rfl) | exact Or.inr (Or.inr rfl)) (hd : (x == ("__debug__" : Str)) = false := by decide)
    (hcd : (x == ("__classdict__" : Str)) = false := by decide) : JF kap xi X W (.Name x pos) (fun _ => tVar i) (vMove i) := ⟨pe_var hN hv hd hcd, by
  intro W F H sg de O Q R hp
  unfold vMove at hp
  split at hp
  · rename_i d e
    obtain ⟨p, h1, h2, h3, h4⟩ := R.ow i _ d e rfl
    have il : i < de.length := (List.getElem?_eq_some_iff.mp e).1
    have R2 : RS X.K kap xi F H sg (de.set i .no) (putO O de.length i none) := by
      have := R.put i (some (.ref p)) .no none (fun _ e => by cases e) (fun _ e => by cases e) (fun _ _ e => by cases e) fun _ => rfl
      have es : sg.set i (some (.ref p)) = sg := by
        have isg : i < sg.length := by rw [R.len]; exact il
        refine List.ext_getElem? fun j => ?_
        by_cases z : j = i
        · rw [z, List.getElem?_set_self isg, h2]
        · rw [List.getElem?_set_ne (Ne.symm z)]
      rw [es] at this
      exact this
    refine ⟨_, h2, hp _ F H _ R2 (Go.put i .no none (fun _ e => by cases e) fun _ e => by cases e) ⟨p, rfl, h3, h4, fun j z => ?_⟩ fun q z => by cases z; exact .inr ⟨i, h1⟩⟩
    by_cases w : j = i
    · rw [w, putO_same il] at z; cases z
    · rw [putO_other (.inl w)] at z
      exact w (R.inj j i p z h1)
  · exact hp.elim⟩
end
/-! ### stores to owned lists -/
def slotOw (i : Nat) (de : DEnv) : Option (Sl × D) := (de[i]?).bind fun s => s.owd.map fun d => (s, d)
def isLst : D → Bool
  | .lst _ => true
  | _ => false
/-- x[k] = v, x an owned local -/
def putL (i : Nat) (v k : D) (de : DEnv) : Ot :=
  match slotOw i de with
  | some (s, .lst ds) => (match (asI k).bind fun k => ixN ds.length k with
    | some j => .nx (de.set i (s.same (.lst (ds.set j v))))
    | none => .bad)
  | _ => .bad
def vSetIx (i : Nat) (evv : DEnv → Rs D) (evk : DEnv → Rs D) (de : DEnv) : Ot :=
  (evv de).out fun v de1 => if ((slotAt i de1).map isLst).getD false = true then (evk de1).out fun k de2 => putL i v k de2 else .bad
/-- a method of an owned list: the arguments, then the change -/
def vMut (i : Nat) (g : List D → List D → Option (D × List D)) (ea : DEnv → Rs (List D)) (de : DEnv) : Rs D :=
  if ((slotAt i de).map isLst).getD false = true then
    (ea de).bind fun as de1 => match slotOw i de1 with
      | some (s, .lst ds) => (match g ds as with
        | some (r, ds') => .ok r (de1.set i (s.same (.lst ds')))
        | none => .bad)
      | _ => .bad
  else .bad
section
variable {K : PySem.W.Frag} {kap : Kp} {xi : Xi} {F H : Hp} {sg : St} {de : DEnv} {O : Own?} {W : WX}
theorem RS.owl (R : RS K kap xi F H sg de O) {i : Nat} {s : Sl} {d : D} (h : slotOw i de = some (s, d)) : de[i]? = some s ∧ s.owd = some d ∧ ∃ p, O i = some p ∧ sg[i]? = some (some (.ref p)) ∧ F p = none ∧ Own K kap F H p d := by
  obtain ⟨t, h1, h2⟩ := bind_some h
  obtain ⟨d', h3, h4⟩ := Option.map_eq_some_iff.mp h2
  cases h4
  exact ⟨h1, h3, R.ow i _ _ h1 h3⟩
end
section
variable {kap : Kp} {xi : Xi} {X : Cx} {W : WX} {e ek o : Expr} {es : List Expr} {t tk : WX → TE} {ta : WX → TA} {ev evk : DEnv → Rs D} {ea : DEnv → Rs (List D)} {pos pos' cpos apos : Pos}
theorem jSetIx (i : Nat) {x : Str} {xp : Pos} (hv : JE kap xi X W e t ev) (hk : JE kap xi X W ek tk evk) (hN : X.N[i]? = some x := by rfl) (hvis : Vis X.env.scope x := by first | exact Or.inl rfl | exact Or.inr (Or.inl rfl) | exact Or.inr (Or.inr rfl))
    (hd : (x == ("__debug__" : Str)) = false := by decide) (hcd : (x == ("__classdict__" : Str)) = false := by decide)
    (ha : ∀ v, assign (.Subscript (.Name x xp) ek pos') X.env v = (do let ov ← holding [v] (eval (.Name x xp) X.env); let iv ← holding [v, ov] (eval ek X.env); standAt pos'; holding [v, ov, iv] (setItem ov iv v); release [v, ov, iv] []) := by intro _; rfl)
    (hs : swapsWithSole [.Subscript (.Name x xp) ek pos'] e pos.line X.env = pure false := by rfl) (hw : swappedStores [.Subscript (.Name x xp) ek pos'] e X.env = pure none := by rfl) :
    JS kap xi X W (.Assign [.Subscript (.Name x xp) ek pos'] e pos) (fun W => tAsg (t W) (gSub (tVar i) (tk W) rSetL)) (vSetIx i ev evk) := ⟨ps_asg hv.p (pg_sub (pe_var hN hvis hd hcd) hk.p set_list ha) hs hw, by
  intro W F H sg de O Dn R hp
  refine hv.s.out R hp fun v d F1 H1 de1 O1 R1 g1 r _ hp => ?_
  split at hp
  · rename_i hsl
    cases e0 : slotAt i de1 with
    | none => rw [e0] at hsl; cases hsl
    | some d0 =>
      obtain ⟨u, hu, _⟩ := R1.rb e0
      refine ⟨u, hu, ?_⟩
      refine hk.s.out R1 hp fun k' k F2 H2 de2 O2 R2 g2 rk _ hp => ?_
      unfold putL at hp
      split at hp
      · rename_i s ds eo
        split at hp
        · rename_i j ek
          obtain ⟨e1, e2, p, h1, h2, h3, vs, h4, h5⟩ := R2.owl eo
          obtain ⟨k0, e3, e4⟩ := bind_some ek
          rw [hu] at h2
          cases h2
          refine ⟨p, vs, k0, j, rfl, rep_int rk e3, h4, by rw [Reps.length h5]; exact e4, ?_⟩
          have rr : Rep X.K kap F2 v d := Rep.mono g2.ex r
          obtain ⟨R3, g3⟩ := R2.mut (o := .lst (vs.set j v)) (d' := .lst (ds.set j d)) e1 e2 h1 ⟨_, upd_same, Reps.set rr j h5⟩
          exact hp F2 _ sg O2 R3 g3
        · exact hp.elim
      · exact hp.elim
  · exact hp.elim⟩
/-- the rule of such a method: what it gives, what it leaves -/
def SPM (K : PySem.W.Frag) (kap : Kp) (r : V → List V → Hp → VK → Prop) (g : List D → List D → Option (D × List D)) : Prop :=
  ∀ F H p vs ds xs as z ds' Q, H p = some (.lst vs) → Reps K kap F vs ds → Reps K kap F xs as → g ds as = some (z, ds') → (∀ v vs', Rep K kap F v z → Reps K kap F vs' ds' → Q v (upd H p (.lst vs'))) → r (.ref p) xs H Q
theorem ty_lst {K : PySem.W.Frag} {F H : Hp} {v : V} {d : D} (sub : Same F H) (r : RB K kap F H v d) (h : isLst d = true) : tyV K "list" v H := by
  cases d with
  | lst ds =>
    obtain ⟨p, vs, rfl, h1, r1⟩ := r.lst sub
    exact Or.inl ⟨rfl, _, SqL.of h1⟩
  | _ => cases h
def gAppend (ds as : List D) : Option (D × List D) := match as with
  | [d] => if ds.length < 16777216 then some (.non, ds ++ [d]) else none
  | _ => none
theorem spm_append {K : PySem.W.Frag} : SPM K kap rAppend gAppend := by
  intro F H p vs ds xs as z ds' Q h r ra e q
  unfold gAppend at e
  split at e
  · split at e
    · rename_i hl
      cases e
      cases ra with
      | cons r1 r2 =>
        cases r2
        refine ⟨p, vs, _, rfl, rfl, h, by rw [line_eq, r.length]; exact hl, ?_⟩
        exact q _ _ .non (r.append (.cons r1 .nil))
    · cases e
  · cases e
def gClear (ds as : List D) : Option (D × List D) := match as with
  | [] => some (.non, [])
  | _ => none
end
end DL
set_option maxRecDepth 100000
set_option maxHeartbeats 2000000
set_option autoImplicit false
/-! a def's promise where nothing is being shown (no repr is under way): Room with that -/
namespace DL
open PySem L2 PySem.Spec PyProof.Rows
structure RoomG (k : Nat) (A : Around) : Prop where
  r : Room k A
  g : A.guards = some []
theorem RoomG.mono {j k : Nat} {A : Around} (r : RoomG k A) (h : j ≤ k) : RoomG j A := ⟨r.r.mono h, r.g⟩
theorem RoomG.un {k : Nat} {A : Around} (r : RoomG k A) : A.units + 16 * k + 200 < cLine := r.r.un
theorem RoomG.hd {k : Nat} {A : Around} (r : RoomG k A) : A.handled = none := r.r.hd
theorem RoomG.deeper {k : Nat} {A : Around} (r : RoomG (k + 1) A) (env : Env) : RoomG k (A.deeper env) := ⟨r.r.deeper env, r.g⟩
theorem RoomG.make {k : Nat} {A : Around} (r : RoomG (k + 1) A) (C : Addr) (us : List Value) (kw : List (Str × Value)) : RoomG k (A.under (.builtin "type.__call__" ⟨.ref C :: us, kw⟩)) :=
  ⟨r.r.make C us kw, by
    have h : (A.under (.builtin "type.__call__" ⟨.ref C :: us, kw⟩)).guards = A.guards := by first | rfl | simp [Around.under, Code.guards, Code.isGuard, guardIds, pushGuards]
    rw [h]; exact r.g⟩
structure FnG (P : Program) (w : World) (K : PySem.W.Frag) (mg : Str → Option Value) (base : Heap) (CX : CXT) (k : Nat) (f : Addr) (fd : FuncData) (ps : List Str) (sp : Sp) : Prop where
  len : ∀ vs H Q E, sp vs H Q E → vs.length = ps.length
  run : ∀ (A : Around) (outer : List Env) (s : Shared) (H : Hp) (args : Args) (us : List Value) (vs : List V) (Q : VK) (E : XK), RoomG k A → Env0 P w K mg base A outer s H → BindsTo s fd args (ps.zip us) → Vals vs us → sp vs H Q E →
    codeAny (model P w) A (.call (.ref f) args) (CR CX outer P w H s Q E) s
theorem FnG.mono {P : Program} {w : World} {K : PySem.W.Frag} {mg : Str → Option Value} {base : Heap} {CX : CXT} {j k : Nat} {f : Addr} {fd : FuncData} {ps : List Str} {sp : Sp} (F : FnG P w K mg base CX j f fd ps sp) (h : j ≤ k) : FnG P w K mg base CX k f fd ps sp :=
  ⟨F.len, fun A outer s H args us vs Q E hr => F.run A outer s H args us vs Q E (hr.mono h)⟩
theorem FnG.imp {P : Program} {w : World} {K : PySem.W.Frag} {mg : Str → Option Value} {base : Heap} {CX : CXT} {k : Nat} {f : Addr} {fd : FuncData} {ps : List Str} {sp sp' : Sp} (F : FnG P w K mg base CX k f fd ps sp) (h : ∀ vs H Q E, sp' vs H Q E → sp vs H Q E) : FnG P w K mg base CX k f fd ps sp' :=
  ⟨fun vs H Q E q => F.len vs H Q E (h _ _ _ _ q), fun A outer s H args us vs Q E hr he hb hv hs => F.run A outer s H args us vs Q E hr he hb hv (h _ _ _ _ hs)⟩
theorem fnG_of {CX : CXT} {P : Program} {w : World} {K : PySem.W.Frag} {mg : Str → Option Value} {base : Heap} {k : Nat} {f : Addr} {name qual : Str} {params : Arguments} {body : List Stmt} {scope : Scope} {dV kV doc pm cdv ct oc : Value} {an od : Option Addr}
    {osl : Array (Option Value)} {N ps : List Str} {sp : Sp} (lk : K.lookup f = some ⟨oc, od, .func (PySem.W.fnOf name qual params body scope dV kV doc pm an cdv ct), osl⟩) (hcd : PySem.W.codeIn K cdv qual = true) (S : FnScope N ps scope)
    (len : ∀ vs H Q E, sp vs H Q E → vs.length = ps.length)
    (hbody : ∀ (A : Around) (outer : List Env) (s : Shared) (H : Hp) (vs : List V) (Q : VK) (E : XK), RoomG k (A.deeper (envOfC qual scope s.heap.objs.size f cdv)) → sp vs H Q E →
      ∃ t, PSs (cxOf CX P w K mg base N qual scope f cdv A outer s H E) body t ∧ t { nx := fun _ H' => Q .non H', rt := Q } (start N vs) H) :
    FnG P w K mg base CX (k + 1) f (PySem.W.fnOf name qual params body scope dV kV doc pm an cdv ct) ps sp :=
  ⟨len, fun A outer s H args us vs Q E hr e0 hb r hsp => by
    have KX : K.In s.heap := e0.mod.kin.keeps fun b o e => (e0.bs b o e).1
    have kinds : ∀ y ∈ ps.zip us, scope.names.lookup y.1 = some .local ∨ (scope.names.lookup y.1 = some .cell ∧ ((cellsFrom (s.heap.objs.size + 1) scope.names []).lookup y.1).isSome = true) := by
      rintro ⟨n, v⟩ hy
      exact (S.par n (List.of_mem_zip hy).1).imp id fun q => ⟨q, PySem.W.cellsFrom_some _ _ _ (.inl q)⟩
    refine codeAny_call_function hr.r.depth (KX _ _ lk) rfl S.co S.gen rfl (PySem.W.codeRec_of KX hcd) (hb _ _ _ _ (wpAny_newFunctionEnv_cells S.kind kinds fun env he s1 x => ?_))
    subst he
    refine ⟨Heap.NoLimit.keeps (e0.mod.nolimit.keeps fun b o e => (e0.bs b o e).1) x.toInCall.keep, codeAny_func ?_⟩
    obtain ⟨t, ht, hq⟩ := hbody A outer s H vs Q E (hr.deeper _) hsp
    refine wpAny_mono (ht.run [] s1 (start N vs) H _ (inv_start S hr.r.hd e0 (len _ _ _ _ hsp) r x) hq) (fun fl s' hs => ?_) fun e s' hs => hs
    cases fl with
    | ret u => obtain ⟨v, σ', H', J, rv, q⟩ := hs; exact ⟨v, H', J.os, J.bare, J.base, J.hok, rv, q⟩
    | next => obtain ⟨σ', H', J, q⟩ := hs; exact ⟨.non, H', J.os, J.bare, J.base, J.hok, rfl, q⟩
    | brk => obtain ⟨_, _, _, q⟩ := hs; exact q.elim
    | cont => obtain ⟨_, _, _, q⟩ := hs; exact q.elim⟩
theorem fun_okG {P : Program} {w : World} {K : PySem.W.Frag} {mg : Str → Option Value} {base : Heap} {x qual : Str} {st : Stmt} {f : Addr} {fd : FuncData} {N ps : List Str} {k : Nat} {sp : Sp} (F : Fun K x qual st f fd) (S : FnScope N ps (defScope st)) (len : ∀ vs H Q E, sp vs H Q E → vs.length = ps.length)
    (hbody : ∀ (cdv : Value) (A : Around) (outer : List Env) (s : Shared) (H : Hp) (vs : List V) (Q : VK) (E : XK), RoomG k (A.deeper (envOfC qual (defScope st) s.heap.objs.size f cdv)) → sp vs H Q E →
      ∃ t, PSs (cxOf (L2.CX P w) P w K mg base N qual (defScope st) f cdv A outer s H E) (defBody st) t ∧ t { nx := fun _ H' => Q .non H', rt := Q } (start N vs) H) : FnG P w K mg base (L2.CX P w) (k + 1) f fd ps sp := by
  obtain ⟨oc, od, kV, doc, pm, an, cdv, ct, osl, rfl, lk, hcd⟩ := F.ex
  exact fnG_of lk hcd S len fun A outer s H vs Q E hr hsp => hbody cdv A outer s H vs Q E hr hsp
section
variable {X : Cx} {CX : CXT} {k : Nat} {f : Addr} {fd : FuncData} {ps : List Str} {ds : List Value} {dvs : List V} {sp : Sp} {E : L2.St → XK} {x : Str} {p pos : Pos} {e : Expr} {es : List Expr} {t : TA}
theorem run_fnG {pins : List (Addr × Obj)} {σ : L2.St} {H : Hp} {s : Shared} {Q : VK} {us : List Value} {vs : List V} (F : FnG X.prog X.w X.K X.mg X.base CX k f fd ps sp) (hr : RoomG k X.A) (hb : Binds X.K fd ps ds) (hd : Vals dvs ds) (hx : PassesAt CX X σ (E σ))
    (I : Inv X pins σ H s) (r : Vals vs us) (h : sp (vs ++ dvs) H Q (E σ)) : wpAny (model X.prog X.w) X.A (call (.ref f) us) (EP X pins σ Q) X.xe s := by
  have r2 := r.append hd
  refine wpAny_call (codeAny_mono (F.run X.A X.stack s H ⟨us, []⟩ (us ++ ds) (vs ++ dvs) Q (E σ) hr I.env0 (hb s us I.kIn (by rw [← r2.length]; exact F.len _ _ _ _ h)) r2 h) fun r s' hq => ?_)
  cases r with
  | error e => exact hx pins H s e s' I hq
  | ok fl => cases fl with
    | ret u => exact I.after hq
    | next => exact hq.elim
    | brk => exact hq.elim
    | cont => exact hq.elim
theorem pe_callG (F : FnG X.prog X.w X.K X.mg X.base CX k f fd ps sp) (hr : RoomG k X.A) (hg : Gl X x) (hm : X.mg x = some (.ref f)) (hk : PySem.W.keepIn X.K (.ref f) = true) (hb : Binds X.K fd ps ds) (hd : Vals dvs ds) (hx : ∀ σ, PassesAt CX X σ (E σ))
    (ha : PA X (e :: es) t) (hdb : (x == ("__debug__" : Str)) = false := by decide) (he : starEach (e :: es) X.env = (false, eval e X.env) :: starEach es X.env := by rfl) (hpl : (backTo pos (starEach es X.env)).any (·.1) = false := by rfl) :
    PE X (.Call (.Name x p) (e :: es) [] pos) (tCallSD sp dvs E t) :=
  ⟨fun pins s σ H Q I h => wpAny_Call_Name_kw (ld_glob I hg hm (PySem.W.callWith_K (h₀ := X.base) I.ok.mod.kin hk (thn (ha.run pos pins s σ H _ I h) fun us s1 ⟨vs, H1, I1, r, q⟩ => ⟨I1.kIn, run_fnG F hr hb hd (hx σ) I1 r q⟩) he hpl) hdb)⟩
end
/-- where the run's modules are told -/
def SmB (base : Heap) : Prop := ∃ mm, base.Ns sysModules mm
/-- the law's own call, from the place where the claim makes it -/
theorem lawG_call {P : Program} {w : World} {K : PySem.W.Frag} {mg mb : Str → Option Value} {CX : CXT} {k : Nat} {fa a : Addr} {fd : FuncData} {x : Str} {sp : Sp} {s₁ : Shared} {vs : List Value} {ns : List Int}
    (KX : K.In s₁.heap) (hns : s₁.heap.Ns mainGlobals mg) (hb : s₁.heap.Ns builtinsNs mb) (hbb : ∀ x : Str, x ≠ "__name__" → mb x = bootBuiltins x) (hlim : s₁.heap.NoLimit) (hg : s₁.gens = #[])
    (ha : s₁.heap.get? a = some { cls := .type "list", data := .seq vs.toArray }) (hi : IntsAre vs ns) (hl : ns.length ≤ sizeLine) (hr : RoomG k callerA)
    (hsm : SmB s₁.heap) (F : ∀ base : Heap, K.In base → base.Ns mainGlobals mg → SmB base → FnG P w K mg base CX k fa fd [x] sp) (hbind : ∀ (s : Shared) (u : Value), BindsTo s fd ⟨[u], []⟩ [(x, u)])
    (hsp : ∀ H : Hp, Only H → SqL K H a (ns.map V.int) → sp [.ref a] H (fun v _ => v = .bl true) fun _ _ _ => False)
    (hCX : ∀ H e s', CX [] H s₁ (fun _ _ _ => False) e s' → False) :
    codeAny (model P w) callerA (.call (.ref fa) ⟨[.ref a], []⟩) (fun r s' => r = .ok (.ret (.bool true)) ∧ OldK s₁.heap s'.heap ∧ s'.os = s₁.os ∧ AllBare s'.gens) s₁ := by
  have rv := vals_ints hi
  have main : ∀ H : Hp, Only H → SqL K H a (ns.map V.int) → HOk P w H s₁.heap → (∀ b, H b ≠ none → b = a) → (H a ≠ none → K.lookup a = none) →
      codeAny (model P w) callerA (.call (.ref fa) ⟨[.ref a], []⟩) (fun r s' => r = .ok (.ret (.bool true)) ∧ OldK s₁.heap s'.heap ∧ s'.os = s₁.os ∧ AllBare s'.gens) s₁ := by
    intro H hO hS hok hA hK
    have free : ∀ {b : Addr}, b ≠ a → H b = none := fun {b} n => by
      cases q : H b with
      | none => rfl
      | some u => exact absurd (hA b (by rw [q]; simp)) n
    have ns_ : ∀ {b : Addr} {m : Str → Option Value}, s₁.heap.Ns b m → (hidT s₁.heap H).Ns b m := fun {b m} ⟨o, es, ep, e, d, r⟩ => ⟨o, es, ep, hidT_get e (free fun z => by rw [z, ha] at e; cases e; cases d), d, r⟩
    have kb : K.In (hidT s₁.heap H) := fun b o e => hidT_get (KX b o e) (by
      by_cases z : b = a
      · cases q : H b with
        | none => rfl
        | some u => rw [z] at q e; rw [hK (by rw [q]; simp)] at e; cases e
      · exact free z)
    have hM : Mod K mg (hidT s₁.heap H) := ⟨kb, ns_ hns, ⟨mb, ns_ hb, hbb⟩, let ⟨mc, h1, h2⟩ := hlim; ⟨mc, ns_ h1, h2⟩⟩
    have nof : ∀ b : Addr, b ∉ ([] : List Addr) := fun b z => (by cases z)
    have e0 : Env0 P w K mg (hidT s₁.heap H) callerA [] s₁ H := ⟨rfl, hM, fun b o e => of_hidT e, Nat.le_of_eq (hidT_size _ _), trivial, fun b z => absurd z (nof b), hok, .of_eq hg⟩
    refine codeAny_mono ((F _ kb (ns_ hns) (hsm.imp fun _ => ns_)).run callerA [] s₁ H ⟨[.ref a], []⟩ [.ref a] [.ref a] _ _ hr e0 (hbind s₁ (.ref a)) (.cons rfl .nil) (hsp H hO hS)) fun r s' h => ?_
    rcases r with e | fl
    · exact (hCX H e s' h).elim
    · cases fl with
      | next => exact h.elim
      | brk => exact h.elim
      | cont => exact h.elim
      | ret u =>
        obtain ⟨v, H', os, bare, un, hok', rv', q⟩ := h
        cases (show v = .bl true from q)
        cases (show u = Value.bool true from rv')
        refine ⟨rfl, OldK.of_keep fun b o e => ?_, os, bare⟩
        rcases hO b with z | ⟨ob, xs, z⟩
        · exact un.keep b o e z (nof b) (nof b)
        · obtain ⟨e1, _⟩ := hok b _ z
          obtain ⟨e2, _⟩ := hok' b _ (un.frzs b ob _ z)
          rw [e] at e1
          cases e1
          exact e2
  cases hk : K.lookup a with
  | some o =>
    have e := KX a o hk
    rw [ha] at e
    cases e
    exact main (fun _ => none) (fun _ => .inl rfl) (.inr ⟨_, vs.toArray, _, hk, rfl, rfl, rfl, by rw [List.size_toArray, hi.length]; exact hl, by simpa using rv⟩) (fun b u z => by cases (show (none : Option HO) = some u from z)) (fun b z => absurd rfl z) fun z => absurd rfl z
  | none =>
    have at_ : ∀ {b : Addr} {u : HO}, (if b = a then some (HO.frz { cls := .type "list", data := .seq vs.toArray } (.lst (ns.map V.int))) else none) = some u → b = a ∧ u = HO.frz { cls := .type "list", data := .seq vs.toArray } (.lst (ns.map V.int)) := fun {b u} z => by
      by_cases hb : b = a
      · rw [if_pos hb] at z; cases z; exact ⟨hb, rfl⟩
      · rw [if_neg hb] at z; cases z
    refine main (fun b => if b = a then some (.frz { cls := .type "list", data := .seq vs.toArray } (.lst (ns.map V.int))) else none) (fun b => ?_) (.inl (.inr ⟨_, if_pos rfl⟩)) (fun b u z => ?_) (fun b z => ?_) fun _ => hk
    · by_cases hb : b = a
      · exact .inr ⟨_, _, if_pos hb⟩
      · exact .inl (if_neg hb)
    · obtain ⟨hb, hu⟩ := at_ z
      subst hb hu
      exact ⟨ha, by rw [List.length_map]; exact hl, vs, _, rv, ha⟩
    · by_cases hb : b = a
      · exact hb
      · exact absurd (if_neg hb) z
theorem walkG_of {l : PySem.W.OpenLaw} {n k : Nat} {q : Program} {loose : List Str} {XP : (Str → Option Value) → Heap → Prop} {YP : World → Heap → Prop} {d : DefRec} {K : Params → PySem.W.Frag} {CX : World → CXT} {sp : World → Sp} {x : Str}
    (hn : l.most = some n) (hn2 : n ≤ sizeLine) (hdf : d.params.defaults = []) (hr : RoomG k callerA) (him : importsNone q = true)
    (hY : ∀ (w : World) (h : Heap), YP w h → (K w.params).In h)
    (F : ∀ (w : World) (mg : Str → Option Value) (fa : Addr) (h : Heap), (K w.params).In h → h.Ns mainGlobals mg → mg d.name = some (.ref fa) →
      ∃ fd : FuncData, (∀ (s : Shared) (u : Value), BindsTo s fd ⟨[u], []⟩ [(x, u)]) ∧
        ∀ base : Heap, (K w.params).In base → base.Ns mainGlobals mg → SmB base → FnG l.prog w (K w.params) mg base (CX w) k fa fd [x] (sp w))
    (hsp : ∀ (w : World) (H : Hp) (a : Addr) (ns : List Int), ns.length ≤ n → Only H → SqL (K w.params) H a (ns.map V.int) → sp w [.ref a] H (fun v _ => v = .bl true) fun _ _ _ => False)
    (hCX : ∀ (w : World) (H : Hp) (s : Shared) (e : Value) (s' : Shared), CX w [] H s (fun _ _ _ => False) e s' → False) :
    PySem.W.WalkO q loose XP YP l.row.toRowW d [] (fun f vs => PySem.call f vs) := by
  refine Att.attach_call hn hdf fun w s₀ s₁ mg mb fa o pm cd doc a vs ns G Y ho hd hcd hmg hobj hints hlen hg => ?_
  obtain ⟨fd, hb, hF⟩ := F w mg fa _ (hY w _ Y) G.T.g hmg
  exact lawG_call (hY w _ Y) G.T.g G.T.b G.T.builtins G.T.nolimit hg hobj hints (Nat.le_trans hlen hn2) hr ((G.T.seer him).mods.imp fun _ h => h.1) hF hb (fun H hO hS => hsp w H a ns hlen hO hS) fun H e s' => hCX w H s₁ e s'
end DL
set_option maxRecDepth 100000
set_option maxHeartbeats 2000000
set_option autoImplicit false
namespace DL
open PySem L2
open PySem.Spec PyProof.Rows in
abbrev envC := @envOfC
/-! ### a def's promise: what it hands back of data. mu: the parameter that it may change (at most one) -/
inductive Fo where
  | ret (d : D) (q : Option D) | retF (d : D) (q : Option D) | ex (c : Nat) (fs : List (Str × D)) (q : Option D) | bad
section
variable (K : PySem.W.Frag) (kap : Kp) (F H : Hp) (mu : Option Nat)
structure ArgR (vs : List V) (ds : List D) (P : Option Addr) : Prop where
  len : vs.length = ds.length
  va : ∀ (i : Nat) (d : D), ds[i]? = some d → mu ≠ some i → ∃ v, vs[i]? = some v ∧ Rep K kap F v d
  ow : ∀ (k : Nat) (d : D), mu = some k → ds[k]? = some d → ∃ p, P = some p ∧ vs[k]? = some (V.ref p) ∧ F p = none ∧ Own K kap F H p d
  no : P ≠ none → ∃ k d, mu = some k ∧ ds[k]? = some d
structure FPost (F' H' : Hp) (P : Option Addr) (q : Option D) : Prop where
  ex : Same F F'
  sub : Same F' H'
  keep : ∀ a o, H a = some o → (∀ ps, o ≠ .tbl ps) → P ≠ some a → H' a = some o
  dom : ∀ a, H' a = none → H a = none
  fnew : ∀ a, F' a ≠ none → F a ≠ none ∨ H a = none
  own : ∀ p, P = some p → ∃ d, q = some d ∧ F' p = none ∧ Own K kap F' H' p d
  nt : NTF F'
  tab : TabsL kap.tab H'
/-- the state at a call -/
structure St0 : Prop where
  sub : Same F H
  nt : NTF F
  tab : TabsL kap.tab H
end
theorem RS.st0 {K : PySem.W.Frag} {kap : Kp} {xi : Xi} {F H : Hp} {sg : St} {de : DEnv} {O : Own?} (R : RS K kap xi F H sg de O) : St0 kap F H := ⟨R.sub, R.nt, R.tab⟩
theorem FPost.st0 {K : PySem.W.Frag} {kap : Kp} {F H F' H' : Hp} {P : Option Addr} {q : Option D} (f : FPost K kap F H F' H' P q) : St0 kap F' H' := ⟨f.sub, f.nt, f.tab⟩
theorem FPost.new {K : PySem.W.Frag} {kap : Kp} {F H F' H' : Hp} {q : Option D} (f : FPost K kap F H F' H' none q) : New kap.tab F H F' H' := ⟨f.ex, fun a o h n => f.keep a o h n (by simp), f.fnew, f.dom, fun _ => f.tab, fun _ => f.nt⟩
def spD (K : PySem.W.Frag) (kap : Kp) (n : Nat) (mu : Option Nat) (m : List D → Fo) : Sp := fun vs H Q E => ∃ F ds P, ds.length = n ∧ St0 kap F H ∧ ArgR K kap F H mu vs ds P ∧
  (match m ds with
  | .ret d q => ∀ v F' H', FPost K kap F H F' H' P q → Rep K kap F' v d → Q v H'
  | .retF d q => ∀ p F' H', FPost K kap F H F' H' P q → F' p = none → Own K kap F' H' p d → H p = none → P ≠ some p → Q (.ref p) H'
  | .ex c fs q => ∀ F' H' d, FPost K kap F H F' H' P q → XR K kap F' d fs → E (.ref (kap c)) d H'
  | .bad => False)
def env0 : Option Nat → List D → DEnv
  | none, ds => ds.map .va
  | some 0, d :: r => .pn d :: r.map .va
  | some (k + 1), d :: r => .va d :: env0 (some k) r
  | some _, [] => []
theorem env0_get : ∀ (mu : Option Nat) (ds : List D) (i : Nat), (env0 mu ds)[i]? = (ds[i]?).map fun d => if mu = some i then .pn d else .va d
  | none, ds, i => by simp [env0]
  | some k, [], i => by cases k <;> simp [env0]
  | some 0, d :: r, 0 => by simp [env0]
  | some 0, d :: r, i + 1 => by simp [env0]
  | some (k + 1), d :: r, 0 => by simp [env0]
  | some (k + 1), d :: r, i + 1 => by
    have := env0_get (some k) r i
    simp only [env0, List.getElem?_cons_succ, this]
    congr 1
    funext d
    by_cases h : k = i <;> simp [h]
theorem env0_len (mu : Option Nat) (ds : List D) : (env0 mu ds).length = ds.length := by
  induction ds generalizing mu with
  | nil => cases mu with
    | none => rfl
    | some k => cases k <;> rfl
  | cons d r ih =>
    cases mu with
    | none => simp [env0]
    | some k =>
      cases k with
      | zero => simp [env0]
      | succ k => simp [env0, ih]
/-- what the changed parameter holds at the end -/
def lastOf (mu : Option Nat) (de : DEnv) : Option (Option D) := match mu with
  | none => some none
  | some k => match de[k]? with
    | some (.pn d) => some (some d)
    | _ => none
def finish (mu : Option Nat) : Ot → Fo
  | .nx de => (match lastOf mu de with | some q => .ret .non q | none => .bad)
  | .ret d de => (match lastOf mu de with | some q => .ret d q | none => .bad)
  | .retF d de => (match lastOf mu de with | some q => .retF d q | none => .bad)
  | .ex c fs de => (match lastOf mu de with | some q => .ex c fs q | none => .bad)
  | _ => .bad
/-- a def's run on data: nl further locals -/
def run (mu : Option Nat) (nl : Nat) (e : DEnv → Ot) (ds : List D) : Fo := finish mu (e (env0 mu ds ++ List.replicate nl .no))
section
variable {K : PySem.W.Frag} {kap : Kp} {xi : Xi} {F H : Hp} {mu : Option Nat} {vs : List V} {ds : List D} {P : Option Addr}
theorem start_get (N : List Str) (vs : List V) (i : Nat) {v : V} (h : vs[i]? = some v) : (L2.start N vs)[i]? = some (some v) := by
  have il : i < vs.length := (List.getElem?_eq_some_iff.mp h).1
  unfold L2.start
  rw [List.getElem?_append_left (by simpa using il), List.getElem?_map, h]
  rfl
def O0 (mu : Option Nat) (P : Option Addr) : Own? := fun i => if mu = some i then P else none
theorem rs_start (N : List Str) (nl : Nat) (hN : N.length = ds.length + nl) (sub : St0 kap F H) (A : ArgR K kap F H mu vs ds P) : RS K kap none F H (L2.start N vs) (env0 mu ds ++ List.replicate nl .no) (O0 mu P) := by
  have get : ∀ (i : Nat) (s : Sl), (env0 mu ds ++ List.replicate nl .no)[i]? = some s → (∃ d, ds[i]? = some d ∧ s = if mu = some i then .pn d else .va d) ∨ s = .no := fun i s h => by
    by_cases il : i < ds.length
    · rw [List.getElem?_append_left (by rw [env0_len]; exact il), env0_get] at h
      obtain ⟨d, h1, h2⟩ := Option.map_eq_some_iff.mp h
      exact .inl ⟨d, h1, h2.symm⟩
    · rw [List.getElem?_append_right (by rw [env0_len]; exact Nat.le_of_not_lt il)] at h
      exact .inr (List.eq_of_mem_replicate (List.mem_of_getElem? h))
  refine ⟨?_, fun i d h => ?_, fun i s d h1 h2 => ?_, fun i c fs h => ?_, fun i p h => ?_, fun i j p h1 h2 => ?_, sub.sub, sub.nt, sub.tab, fun i d h => ?_, fun i s d h1 h2 => ?_⟩
  · unfold L2.start
    simp [env0_len, A.len]
    have := A.len
    omega
  · rcases get i _ h with ⟨d', h1, h2⟩ | h2
    · split at h2
      · cases h2
      · rename_i hm
        cases h2
        obtain ⟨v, g1, g2⟩ := A.va i d h1 hm
        exact ⟨v, start_get N vs i g1, g2⟩
    · cases h2
  · rcases get i _ h1 with ⟨d', g1, g2⟩ | g2
    · split at g2
      · rename_i hm
        subst g2
        cases h2
        obtain ⟨p, k1, k2, k3, k4⟩ := A.ow i d hm g1
        refine ⟨p, ?_, start_get N vs i k2, k3, k4⟩
        unfold O0
        rw [if_pos hm, k1]
      · subst g2; cases h2
    · subst g2; cases h2
  · rcases get i _ h with ⟨d', g1, g2⟩ | g2
    · split at g2 <;> cases g2
    · cases g2
  · unfold O0 at h
    split at h
    · rename_i hm
      obtain ⟨k, d, e1, e2⟩ := A.no (by rw [h]; simp)
      rw [hm] at e1
      cases e1
      refine ⟨.pn d, d, ?_, rfl⟩
      rw [List.getElem?_append_left (by rw [env0_len]; exact (List.getElem?_eq_some_iff.mp e2).1), env0_get, e2, Option.map_some, if_pos hm]
    · cases h
  · unfold O0 at h1 h2
    split at h1
    · rename_i m1
      split at h2
      · rename_i m2
        rw [m1] at m2
        cases m2
        rfl
      · cases h2
    · cases h1
  · rcases get i _ h with ⟨d', g1, g2⟩ | g2
    · split at g2 <;> cases g2
    · cases g2
  · rcases get i _ h1 with ⟨d', g1, g2⟩ | g2
    · split at g2 <;> (subst g2; cases h2)
    · subst g2; cases h2
theorem post_of {F' H' : Hp} {sg' : St} {de' : DEnv} {O' : Own?} {xi : Xi} {nl : Nat} {q : Option D} (A : ArgR K kap F H mu vs ds P) (R : RS K kap xi F' H' sg' de' O') (g : Go F H (env0 mu ds ++ List.replicate nl .no) (O0 mu P) F' H' de' O')
    (hq : lastOf mu de' = some q) : FPost K kap F H F' H' P q ∧ ∀ p, P = some p → ∃ i, O' i = some p := by
  have key : ∀ p, P = some p → ∃ k d, mu = some k ∧ q = some d ∧ de'[k]? = some (Sl.pn d) ∧ O' k = some p := fun p hp => by
    obtain ⟨k, d, e1, e2⟩ := A.no (by rw [hp]; simp)
    subst e1
    unfold lastOf at hq
    dsimp only at hq
    split at hq
    · rename_i d' e3
      cases hq
      obtain ⟨e4, _⟩ := g.pin k d' e3
      refine ⟨k, d', rfl, rfl, e3, ?_⟩
      rw [e4]
      unfold O0
      rw [if_pos rfl, hp]
    · cases hq
  refine ⟨⟨g.ex, R.sub, fun a o h t n => g.keep a o h t fun i e => ?_, g.dom, fun a h => ?_, fun p hp => ?_, R.nt, R.tab⟩, fun p hp => ?_⟩
  · unfold O0 at e
    split at e
    · exact n e
    · cases e
  · rcases g.fnew a h with z | z | ⟨i, z⟩
    · exact .inl z
    · exact .inr z
    · exfalso
      unfold O0 at z
      split at z
      · obtain ⟨k, d, _, _, e3, e4⟩ := key a z
        obtain ⟨p', k1, _, k3, _⟩ := R.ow k _ d e3 rfl
        rw [e4] at k1
        cases k1
        exact h k3
      · cases z
  · obtain ⟨k, d, _, e2, e3, e4⟩ := key p hp
    obtain ⟨p', k1, _, k3, k4⟩ := R.ow k _ d e3 rfl
    rw [e4] at k1
    cases k1
    exact ⟨d, e2, k3, k4⟩
  · obtain ⟨k, d, _, _, _, e4⟩ := key p hp
    exact ⟨k, e4⟩
theorem run_snd {n nl : Nat} {N : List Str} {t : WX → TS} {e : DEnv → Ot} (hN : N.length = n + nl) (s : SndS K kap none t e) {H : Hp} {vs : List V} {Q : VK} {E : XK} (h : spD K kap n mu (run mu nl e) vs H Q E) :
    t (fun cls d _ H => E cls d H) { nx := fun _ H' => Q .non H', rt := Q } (L2.start N vs) H := by
  obtain ⟨F, ds, P, hn, sub, A, h⟩ := h
  refine s _ F H _ _ (O0 mu P) _ (rs_start N nl (by rw [hn]; exact hN) sub A) ?_
  unfold run at h
  cases eo : e (env0 mu ds ++ List.replicate nl .no) with
  | nx de' =>
    rw [eo] at h
    unfold finish at h
    dsimp only at h
    cases eq : lastOf mu de' with
    | none => rw [eq] at h; exact h.elim
    | some q =>
      rw [eq] at h
      intro F' H' sg' O' R g
      exact h _ F' H' (post_of A R g eq).1 .non
  | ret d de' =>
    rw [eo] at h
    unfold finish at h
    dsimp only at h
    cases eq : lastOf mu de' with
    | none => rw [eq] at h; exact h.elim
    | some q =>
      rw [eq] at h
      intro v F' H' sg' O' R g r
      exact h _ F' H' (post_of A R g eq).1 r
  | retF d de' =>
    rw [eo] at h
    unfold finish at h
    dsimp only at h
    cases eq : lastOf mu de' with
    | none => rw [eq] at h; exact h.elim
    | some q =>
      rw [eq] at h
      intro v F' H' sg' O' R g ⟨p, ev, hf, how, hO⟩ org
      subst ev
      obtain ⟨p1, p2⟩ := post_of A R g eq
      have np : P ≠ some p := fun z => by
        obtain ⟨i, e⟩ := p2 p z
        exact hO i e
      refine h p F' H' p1 hf how ?_ np
      rcases org p rfl with z | ⟨i, z⟩
      · exact z
      · exfalso
        unfold O0 at z
        split at z
        · exact np z
        · cases z
  | ex c fs de' =>
    rw [eo] at h
    unfold finish at h
    dsimp only at h
    cases eq : lastOf mu de' with
    | none => rw [eq] at h; exact h.elim
    | some q =>
      rw [eq] at h
      intro F' H' sg' O' d R g e1
      exact h F' H' d (post_of A R g eq).1 e1
  | brk de' => rw [eo] at h; exact h.elim
  | ct de' => rw [eo] at h; exact h.elim
  | bad => rw [eo] at h; exact h.elim
end
theorem Fun.dl {P : Program} {w : World} {K : PySem.W.Frag} {mg : Str → Option Value} {base : Heap} {kap : Kp} {x qual : Str} {st : Stmt} {f : Addr} {fd : FuncData} {N ps : List Str} {k : Nat} {n nl : Nat} {mu : Option Nat} {e : DEnv → Ot}
    (F : Fun K x qual st f fd) (S : FnScope N ps (defScope st)) (hn : ps.length = n) (hN : N.length = n + nl)
    (hbody : ∀ (cdv : Value) (A : Around) (outer : List Env) (s : Shared) (H : Hp) (E : XK), RoomG k (A.deeper (envC qual (defScope st) s.heap.objs.size f cdv)) →
      Takes (cxOf (L2.CX P w) P w K mg base N qual (defScope st) f cdv A outer s H E) (fun cls d _ H => E cls d H) →
      PassesOwn (model P w) (cxOf (L2.CX P w) P w K mg base N qual (defScope st) f cdv A outer s H E).A (cxOf (L2.CX P w) P w K mg base N qual (defScope st) f cdv A outer s H E).env (cxOf (L2.CX P w) P w K mg base N qual (defScope st) f cdv A outer s H E).xe →
      ∃ t, JSs kap none (cxOf (L2.CX P w) P w K mg base N qual (defScope st) f cdv A outer s H E) (fun cls d _ H => E cls d H) (defBody st) t e) :
    FnG P w K mg base (L2.CX P w) (k + 1) f fd ps (spD K kap n mu (run mu nl e)) := by
  refine fun_okG F S (fun vs H Q E h => ?_) fun cdv A outer s H vs Q E hr h => ?_
  · obtain ⟨F, ds, P, hd, _, A, _⟩ := h
    rw [A.len, hd, hn]
  · obtain ⟨t, J⟩ := hbody cdv A outer s H E hr (takes_of rfl rfl rfl rfl) (passes_of rfl)
    exact ⟨_, J.p, run_snd hN J.s h⟩
/-! ### calls -/
inductive CA where
  | v (d : D) | s (i : Nat)
inductive CAs (K : PySem.W.Frag) (kap : Kp) (F : Hp) (sg : St) : List V → List CA → Prop
  | nil : CAs K kap F sg [] []
  | v {v : V} {d : D} {vs : List V} {cs : List CA} : Rep K kap F v d → CAs K kap F sg vs cs → CAs K kap F sg (v :: vs) (.v d :: cs)
  | s {v : V} {i : Nat} {vs : List V} {cs : List CA} : sg[i]? = some (some v) → CAs K kap F sg vs cs → CAs K kap F sg (v :: vs) (.s i :: cs)
theorem CAs.mono {K : PySem.W.Frag} {kap : Kp} {F F' : Hp} {sg : St} (e : Same F F') : ∀ {vs : List V} {cs : List CA}, CAs K kap F sg vs cs → CAs K kap F' sg vs cs
  | _, _, .nil => .nil
  | _, _, .v h r => .v (h.mono e) (r.mono e)
  | _, _, .s h r => .s h (r.mono e)
def RlC (K : PySem.W.Frag) (kap : Kp) : Rel (List V) (List CA) := { rel := fun sg F _ _ vs cs => CAs K kap F sg vs cs }
structure JC (kap : Kp) (xi : Xi) (X : Cx) (W : WX) (es : List Expr) (t : WX → TA) (ev : DEnv → Rs (List CA)) : Prop where
  p : PA X es (t W)
  s : Snd X.K kap xi (RlC X.K kap) t ev
def cNil (de : DEnv) : Rs (List CA) := .ok [] de
def cVal (ev : DEnv → Rs D) (er : DEnv → Rs (List CA)) (de : DEnv) : Rs (List CA) := (ev de).bind fun d de1 => (er de1).bind fun cs de2 => .ok (.v d :: cs) de2
def cSlot (i : Nat) (er : DEnv → Rs (List CA)) (de : DEnv) : Rs (List CA) := match slotAt i de with
  | some _ => (er de).bind fun cs de2 => .ok (.s i :: cs) de2
  | none => .bad
def caD (c : CA) (de : DEnv) : Option D := match c with
  | .v d => some d
  | .s i => match de[i]? with
    | some (.va d) => some d
    | _ => none
def argD : Option Nat → List CA → DEnv → Option (List D)
  | _, [], _ => some []
  | none, c :: r, de => (caD c de).bind fun d => (argD none r de).map (d :: ·)
  | some 0, .v _ :: _, _ => none
  | some 0, .s i :: r, de => (slotOw i de).bind fun q => (argD none r de).map (q.2 :: ·)
  | some (k + 1), c :: r, de => (caD c de).bind fun d => (argD (some k) r de).map (d :: ·)
/-- the slot that is handed in to be changed -/
def argS : Option Nat → List CA → Option Nat
  | some 0, .s i :: _ => some i
  | some (k + 1), _ :: r => argS (some k) r
  | _, _ => none
def putBack (i : Option Nat) (q : Option D) (de : DEnv) : DEnv := match i, q with
  | some i, some d => (match de[i]? with
    | some s => de.set i (s.same d)
    | none => de)
  | _, _ => de
def callE (i : Option Nat) (de : DEnv) : Fo → Rs D
  | .ret d q => .ok d (putBack i q de)
  | .retF d q => .ok d (putBack i q de)
  | .ex c fs q => .ex c fs (putBack i q de)
  | .bad => .bad
def callF (i : Option Nat) (de : DEnv) : Fo → Rs D
  | .retF d q => .ok d (putBack i q de)
  | .ex c fs q => .ex c fs (putBack i q de)
  | _ => .bad
section
variable {K : PySem.W.Frag} {kap : Kp} {xi : Xi} {F H : Hp} {sg : St} {de : DEnv} {O : Own?} {W : WX}
/-- the arguments, as the callee sees them -/
theorem args_of (R : RS K kap xi F H sg de O) : ∀ {mu : Option Nat} {vs : List V} {cs : List CA} {ds : List D}, CAs K kap F sg vs cs → argD mu cs de = some ds →
    ∃ P, ArgR K kap F H mu vs ds P ∧ (∀ p, P = some p → ∃ i s d, argS mu cs = some i ∧ de[i]? = some s ∧ s.owd = some d ∧ O i = some p) ∧ (P = none → argS mu cs = none) := by
  have one : ∀ {v : V} {c : CA} {cs : List CA} {vs : List V} {d : D}, CAs K kap F sg (v :: vs) (c :: cs) → caD c de = some d → Rep K kap F v d := fun {v c cs vs d} h e => by
    cases h with
    | v h r => cases e; exact h
    | s h r =>
      unfold caD at e
      dsimp only at e
      split at e
      · rename_i d' e2
        cases e
        obtain ⟨v', g1, g2⟩ := R.va _ _ e2
        rw [h] at g1
        cases g1
        exact g2
      · cases e
  have tl : ∀ {v : V} {c : CA} {cs : List CA} {vs : List V}, CAs K kap F sg (v :: vs) (c :: cs) → CAs K kap F sg vs cs := fun {v c cs vs} h => by
    cases h with
    | v h r => exact r
    | s h r => exact r
  intro mu vs cs
  induction cs generalizing mu vs with
  | nil =>
    intro ds h e
    cases h
    have : ds = [] := by cases mu <;> cases e <;> rfl
    subst this
    refine ⟨none, ⟨rfl, fun i d h => by simp at h, fun k d _ h => by simp at h, fun h => absurd rfl h⟩, fun p h => (by cases h), fun _ => ?_⟩
    cases mu with
    | none => rfl
    | some k => cases k <;> rfl
  | cons c cs ih =>
    intro ds h e
    cases vs with
    | nil => cases h
    | cons v vs =>
      cases mu with
      | none =>
        obtain ⟨d, e1, e2⟩ := bind_some e
        obtain ⟨ds', e3, e4⟩ := Option.map_eq_some_iff.mp e2
        subst e4
        obtain ⟨P, A, hP, hN⟩ := ih (tl h) e3
        have rd := one h e1
        cases P with
        | some p => obtain ⟨k, d, e, _⟩ := A.no (by simp); cases e
        | none =>
          refine ⟨none, ⟨congrArg Nat.succ A.len, fun i d' hi hm => ?_, fun k d' z _ => (by cases z), fun z => absurd rfl z⟩, fun p z => (by cases z), fun _ => rfl⟩
          cases i with
          | zero => simp at hi; subst hi; exact ⟨v, rfl, rd⟩
          | succ i =>
            obtain ⟨v', g1, g2⟩ := A.va i d' (by simpa using hi) (by simp)
            exact ⟨v', by simpa using g1, g2⟩
      | some k =>
        cases k with
        | zero =>
          cases c with
          | v d => cases e
          | s i =>
            obtain ⟨⟨s, d⟩, e1, e2⟩ := bind_some e
            obtain ⟨ds', e3, e4⟩ := Option.map_eq_some_iff.mp e2
            subst e4
            obtain ⟨g1, g2, p, g3, g4, g5, g6⟩ := R.owl e1
            obtain ⟨P, A, hP, hN⟩ := ih (tl h) e3
            have hv : v = .ref p := by
              cases h with
              | s h r => rw [h] at g4; cases g4; rfl
            subst hv
            refine ⟨some p, ⟨congrArg Nat.succ A.len, fun j d' hi hm => ?_, fun k d' z hd => ?_, fun _ => ⟨0, d, rfl, rfl⟩⟩, fun q z => ?_, fun z => by cases z⟩
            · cases j with
              | zero => exact absurd rfl hm
              | succ j =>
                obtain ⟨v', k1, k2⟩ := A.va j d' (by simpa using hi) (by simp)
                exact ⟨v', by simpa using k1, k2⟩
            · cases z
              simp at hd
              subst hd
              exact ⟨p, rfl, rfl, g5, g6⟩
            · cases z
              exact ⟨i, s, d, rfl, g1, g2, g3⟩
        | succ k =>
          obtain ⟨d, e1, e2⟩ := bind_some e
          obtain ⟨ds', e3, e4⟩ := Option.map_eq_some_iff.mp e2
          subst e4
          obtain ⟨P, A, hP, hN⟩ := ih (mu := some k) (tl h) e3
          have rd := one h e1
          refine ⟨P, ⟨congrArg Nat.succ A.len, fun i d' hi hm => ?_, fun k' d' z hd => ?_, fun z => ?_⟩, hP, hN⟩
          · cases i with
            | zero => simp at hi; subst hi; exact ⟨v, rfl, rd⟩
            | succ i =>
              obtain ⟨v', g1, g2⟩ := A.va i d' (by simpa using hi) (fun z => hm (by cases z; rfl))
              exact ⟨v', by simpa using g1, g2⟩
          · cases z
            obtain ⟨p, g1, g2, g3, g4⟩ := A.ow k d' rfl (by simpa using hd)
            exact ⟨p, g1, by simpa using g2, g3, g4⟩
          · obtain ⟨k', d', e, e'⟩ := A.no z
            cases e
            exact ⟨k + 1, d', rfl, by simpa using e'⟩
/-- behind a call: the state, with the changed slot -/
theorem RS.after (R : RS K kap xi F H sg de O) {F' H' : Hp} {P : Option Addr} {q : Option D} {si : Option Nat} (f : FPost K kap F H F' H' P q)
    (hP : ∀ p, P = some p → ∃ i s d, si = some i ∧ de[i]? = some s ∧ s.owd = some d ∧ O i = some p) (hN : P = none → si = none) : RS K kap xi F' H' sg (putBack si q de) O ∧ Go F H de O F' H' (putBack si q de) O := by
  cases P with
  | none =>
    rw [hN rfl]
    have n := f.new
    exact ⟨R.new n f.sub, n.go⟩
  | some p =>
    obtain ⟨i, s, d, e1, e2, e3, e4⟩ := hP p rfl
    obtain ⟨d', e5, e6, e7⟩ := f.own p rfl
    subst e1 e5
    have il : i < de.length := (List.getElem?_eq_some_iff.mp e2).1
    have epb : putBack (some i) (some d') de = de.set i (s.same d') := by
      unfold putBack
      dsimp only
      rw [e2]
    rw [epb]
    have hsd : (s.same d').owd = some d' := by
      cases s with
      | ow d0 => rfl
      | pn d0 => rfl
      | _ => cases e3
    obtain ⟨p', g1, g2, g3, g4⟩ := R.ow i s d e2 e3
    rw [e4] at g1
    cases g1
    refine ⟨⟨by rw [List.length_set]; exact R.len, fun j e h => ?_, fun j t e h1 h2 => ?_, fun j c fs h => ?_, fun j q h => ?_, R.inj, f.sub, f.nt, f.tab, fun j e h => ?_, R.ghs f.ex (fun j t e a h1 h2 h3 => ?_) fun j t e h1 h2 => ?_⟩, ⟨f.ex, fun a u h t n => f.keep a u h t fun z => n i (by rw [e4]; exact z), fun j a h => .inl ⟨j, h⟩, f.dom, fun a h => (f.fnew a h).elim .inl fun z => .inr (.inl z), fun j e h => ?_⟩⟩
    · rcases set_get h with ⟨rfl, _, z⟩ | ⟨n, h⟩
      · exfalso; rw [← z] at hsd; cases hsd
      · obtain ⟨v, k1, k2⟩ := R.va j e h
        exact ⟨v, k1, k2.mono f.ex⟩
    · rcases set_get h1 with ⟨rfl, _, z⟩ | ⟨n, h1⟩
      · rw [z, hsd] at h2
        cases h2
        exact ⟨p, e4, g2, e6, e7⟩
      · obtain ⟨q, k1, k2, k3, k4⟩ := R.ow j t e h1 h2
        have nq : q ≠ p := fun z => by
          have : j = i := R.inj j i p (by rw [k1, z]) e4
          rcases n with n | n
          · exact n this
          · exact absurd il (Nat.not_lt.mpr n)
        obtain ⟨o, ho⟩ := k4.some
        have hk := f.keep q o ho (fun ps z => k4.notTbl ps (by rw [ho, z])) fun z => nq (by cases z; rfl)
        refine ⟨q, k1, k2, ?_, k4.mono f.ex (by rw [hk, ho])⟩
        cases e : F' q with
        | none => rfl
        | some u =>
          rcases f.fnew q (by rw [e]; simp) with z | z
          · exact absurd k3 z
          · rw [ho] at z; cases z
    · rcases set_get h with ⟨rfl, _, z⟩ | ⟨n, h⟩
      · exfalso; rw [← z] at hsd; cases hsd
      · obtain ⟨a, d, k1, k2, k3⟩ := R.ex j c fs h
        exact ⟨a, d, k1, k2, k3.mono f.ex⟩
    · obtain ⟨t, e, h1, h2⟩ := R.onl j q h
      by_cases z : j = i
      · subst z
        exact ⟨s.same d', d', List.getElem?_set_self il, Sl.hld_of (.inl hsd)⟩
      · exact ⟨t, e, by rw [List.getElem?_set_ne (Ne.symm z)]; exact h1, h2⟩
    · rcases set_get h with ⟨rfl, _, z⟩ | ⟨n, h⟩
      · exfalso; rw [← z] at hsd; cases hsd
      · obtain ⟨me, k1, k2, k3⟩ := R.cn j e h
        exact ⟨me, k1, k2, k3.mono f.ex⟩
    · have na : a ≠ p := fun z => by
        have := R.inj j i p (by rw [h3, z]) e4
        subst this
        rw [e2] at h1
        cases h1
        cases s with
        | ow d0 => cases h2
        | pn d0 => cases h2
        | _ => cases e3
      obtain ⟨d9, hw⟩ := R.heldOwn h3
      obtain ⟨o, ho⟩ := hw.some
      refine ⟨?_, by rw [f.keep a o ho (fun ps z => hw.notTbl ps (by rw [ho, z])) fun z => na (by cases z; rfl), ho]⟩
      cases e : F' a with
      | none => rfl
      | some u =>
        rcases f.fnew a (by rw [e]; simp) with z | z
        · exact absurd (R.held h3).1 z
        · rw [ho] at z; cases z
    · rcases set_get h1 with ⟨rfl, _, z⟩ | ⟨n, h1⟩
      · exfalso; rw [z] at h2; cases s with
        | ow d0 => cases h2
        | pn d0 => cases h2
        | _ => cases e3
      · exact ⟨h1, rfl⟩
    · rcases set_get h with ⟨rfl, _, z⟩ | ⟨n, h⟩
      · refine ⟨rfl, ?_⟩
        cases s with
        | pn d0 => exact ⟨d0, e2⟩
        | _ => cases z
      · exact ⟨rfl, e, h⟩
end
end DL
set_option maxRecDepth 100000
set_option maxHeartbeats 2000000
set_option autoImplicit false
namespace DL
open PySem L2
section
variable {kap : Kp} {xi : Xi} {X : Cx} {W : WX} {e : Expr} {es : List Expr} {t : WX → TE} {ta : WX → TA} {ev : DEnv → Rs D} {ea : DEnv → Rs (List CA)} {pos p apos : Pos}
theorem jcNil : JC kap xi X W [] (fun _ => tNil) cNil := ⟨pa_nil, fun W F H sg de O Q R hp => hp.done R New.refl R.sub .nil⟩
theorem jcVal (h : JE kap xi X W e t ev) (hr : JC kap xi X W es ta ea) (hs : starEach (e :: es) X.env = (false, eval e X.env) :: starEach es X.env := by rfl) : JC kap xi X W (e :: es) (fun W => tCons (t W) (ta W)) (cVal ev ea) := ⟨pa_cons h.p hr.p hs, by
  intro W F H sg de O Q R hp
  refine h.s.bind R hp fun v f F1 H1 de1 O1 R1 g1 r _ hp => ?_
  refine hr.s.bind R1 hp fun vs fs F2 H2 de2 O2 R2 g2 rs _ hp => ?_
  exact hp.done R2 New.refl R2.sub (.v (Rep.mono g2.ex r) rs)⟩
theorem jcSlot (i : Nat) {x : Str} {xp : Pos} (hr : JC kap xi X W es ta ea) (hN : X.N[i]? = some x := by rfl) (hv : Vis X.env.scope x := by first | exact Or.inl rfl | exact Or.inr (Or.inl rfl) | exact Or.inr (Or.inr rfl)) (hd : (x == ("__debug__" : Str)) = false := by decide)
    (hcd : (x == ("__classdict__" : Str)) = false := by decide) (hs : starEach (.Name x xp :: es) X.env = (false, eval (.Name x xp) X.env) :: starEach es X.env := by rfl) : JC kap xi X W (.Name x xp :: es) (fun W => tCons (tVar i) (ta W)) (cSlot i ea) := ⟨pa_cons (pe_var hN hv hd hcd) hr.p hs, by
  intro W F H sg de O Q R hp
  unfold cSlot at hp
  split at hp
  · rename_i d e0
    obtain ⟨v, hv, _⟩ := R.rb e0
    refine ⟨v, hv, ?_⟩
    refine hr.s.bind R hp fun vs fs F2 H2 de2 O2 R2 g2 rs _ hp => ?_
    exact hp.done R2 New.refl R2.sub (.s hv rs)
  · exact hp.elim⟩
end
/-! ### what is behind -/
section
variable {K : PySem.W.Frag} {kap : Kp} {xi : Xi} {F H : Hp} {sg : St} {de : DEnv} {O : Own?} {W : WX}
theorem RS.keepO (R : RS K kap xi F H sg de O) {F' H' : Hp} (ex : Same F F') (st : St0 kap F' H') (hO : ∀ i p, O i = some p → H' p = H p ∧ F' p = none) : RS K kap xi F' H' sg de O where
  len := R.len
  va := fun i d e => by
    obtain ⟨v, h1, h2⟩ := R.va i d e
    exact ⟨v, h1, h2.mono ex⟩
  ow := fun i s d e h => by
    obtain ⟨p, h1, h2, h3, h4⟩ := R.ow i s d e h
    obtain ⟨k1, k2⟩ := hO i p h1
    exact ⟨p, h1, h2, k2, h4.mono ex k1⟩
  ex := fun i c fs e => by
    obtain ⟨a, d, h1, h2, h3⟩ := R.ex i c fs e
    exact ⟨a, d, h1, h2, h3.mono ex⟩
  onl := R.onl
  inj := R.inj
  sub := st.sub
  nt := st.nt
  tab := st.tab
  cn := fun i d e => by
    obtain ⟨me, h1, h2, h3⟩ := R.cn i d e
    exact ⟨me, h1, h2, h3.mono ex⟩
  gh := R.ghs ex (fun i s d p _ _ h => ⟨(hO i p h).2, (hO i p h).1⟩) fun i s d h1 h2 => ⟨h1, rfl⟩
/-- the answer of a callee, frozen -/
theorem ret_E {F' H' : Hp} {P : Option Addr} {d : D} {q : Option D} {cs : List CA} {mu : Option Nat} {Q : VK} (R : RS K kap xi F H sg de O)
    (hP : ∀ p, P = some p → ∃ i s d, argS mu cs = some i ∧ de[i]? = some s ∧ s.owd = some d ∧ O i = some p) (hN : P = none → argS mu cs = none)
    {v : V} (hp : PE1 K kap (RlE K kap) xi F H sg de O W Q (.ok d (putBack (argS mu cs) q de))) (f : FPost K kap F H F' H' P q) (r : Rep K kap F' v d) : Q v H' := by
  obtain ⟨R', g⟩ := R.after f hP hN
  exact hp v F' H' O R' g r fun _ z => z.elim
theorem ret_F {F' H' : Hp} {P : Option Addr} {d : D} {q : Option D} {cs : List CA} {mu : Option Nat} {Q : VK} (R : RS K kap xi F H sg de O)
    (hP : ∀ p, P = some p → ∃ i s d, argS mu cs = some i ∧ de[i]? = some s ∧ s.owd = some d ∧ O i = some p) (hN : P = none → argS mu cs = none)
    {p : Addr} (hp : PE1 K kap (RlF K kap) xi F H sg de O W Q (.ok d (putBack (argS mu cs) q de))) (f : FPost K kap F H F' H' P q) (h1 : F' p = none) (h2 : Own K kap F' H' p d) (h3 : H p = none) : Q (.ref p) H' := by
  obtain ⟨R', g⟩ := R.after f hP hN
  exact hp (.ref p) F' H' O R' g ⟨p, rfl, h1, h2, R.nofresh h3⟩ fun _ z => by cases z; exact .inl h3
theorem ret_X {α β : Type} {Rl : Rel β α} {F' H' : Hp} {P : Option Addr} {c : Nat} {fs : List (Str × D)} {q : Option D} {cs : List CA} {mu : Option Nat} {Q : β → Hp → Prop} {dx : Option Addr} (R : RS K kap xi F H sg de O)
    (hP : ∀ p, P = some p → ∃ i s d, argS mu cs = some i ∧ de[i]? = some s ∧ s.owd = some d ∧ O i = some p) (hN : P = none → argS mu cs = none)
    (hp : PE1 K kap Rl xi F H sg de O W Q (.ex c fs (putBack (argS mu cs) q de))) (f : FPost K kap F H F' H' P q) (h1 : XR K kap F' dx fs) : W (.ref (kap c)) dx sg H' := by
  obtain ⟨R', g⟩ := R.after f hP hN
  exact hp F' H' sg O dx R' g h1
/-- frozen from fresh -/
theorem fz_of {d : D} {de' : DEnv} {Q : VK} (hp : PE1 K kap (RlE K kap) xi F H sg de O W Q (.ok d de')) : PE1 K kap (RlF K kap) xi F H sg de O W Q (.ok d de') := by
  intro v F' H' O' R' g ⟨p, ev', hf, how, hO⟩ org
  subst ev'
  obtain ⟨o, ho, hr⟩ := how.freeze hf
  refine hp (.ref p) (upd F' p o) H' O' (R'.add hf ho hO fun ps z => how.notTbl ps (by rw [ho, z])) ⟨g.ex.trans (same_upd hf), g.keep, g.new, g.dom, fun a z => ?_, g.pin⟩ hr fun _ z => z.elim
  by_cases q : a = p
  · subst q; exact .inr (org a rfl)
  · rw [upd_ne q] at z; exact g.fnew a z
theorem args_more {mu : Option Nat} {vs dvs : List V} {ds dcs : List D} {P : Option Addr} (A : ArgR K kap F H mu vs ds P) (hd : Reps K kap F dvs dcs) (hm : P = none → mu = none) : ArgR K kap F H mu (vs ++ dvs) (ds ++ dcs) P where
  len := by rw [List.length_append, List.length_append, A.len, hd.length]
  va := fun i d h hm => by
    by_cases il : i < ds.length
    · rw [List.getElem?_append_left il] at h
      obtain ⟨v, h1, h2⟩ := A.va i d h hm
      exact ⟨v, by rw [List.getElem?_append_left (by rw [A.len]; exact il)]; exact h1, h2⟩
    · rw [List.getElem?_append_right (Nat.le_of_not_lt il)] at h
      obtain ⟨v, h1, h2⟩ := hd.get h
      exact ⟨v, by rw [List.getElem?_append_right (by rw [A.len]; exact Nat.le_of_not_lt il), A.len]; exact h1, h2⟩
  ow := fun k d e h => by
    have hp : P ≠ none := fun z => by rw [hm z] at e; cases e
    obtain ⟨k', d', e1, e2⟩ := A.no hp
    rw [e] at e1
    cases e1
    have il := (List.getElem?_eq_some_iff.mp e2).1
    rw [List.getElem?_append_left il] at h
    obtain ⟨p, h1, h2, h3⟩ := A.ow k d e h
    exact ⟨p, h1, by rw [List.getElem?_append_left (by rw [A.len]; exact il)]; exact h2, h3⟩
  no := fun h => by
    obtain ⟨k, d, e1, e2⟩ := A.no h
    exact ⟨k, d, e1, by rw [List.getElem?_append_left (List.getElem?_eq_some_iff.mp e2).1]; exact e2⟩
end
def okS (mu si : Option Nat) : Bool := si.isSome == mu.isSome
/-- a call on given arguments: frozen answer, fresh answer -/
def callC (n : Nat) (mu : Option Nat) (m : List D → Fo) (dcs : List D) (cs : List CA) (de : DEnv) : Rs D := match argD mu cs de with
  | some ds => if ds.length + dcs.length = n ∧ okS mu (argS mu cs) = true then callE (argS mu cs) de (m (ds ++ dcs)) else .bad
  | none => .bad
def callCF (n : Nat) (mu : Option Nat) (m : List D → Fo) (dcs : List D) (cs : List CA) (de : DEnv) : Rs D := match argD mu cs de with
  | some ds => if ds.length + dcs.length = n ∧ okS mu (argS mu cs) = true then callF (argS mu cs) de (m (ds ++ dcs)) else .bad
  | none => .bad
def wCall (n : Nat) (mu : Option Nat) (m : List D → Fo) (dcs : List D) (ea : DEnv → Rs (List CA)) (de : DEnv) : Rs D := (ea de).bind fun cs de1 => callC n mu m dcs cs de1
def wCallF (n : Nat) (mu : Option Nat) (m : List D → Fo) (dcs : List D) (ea : DEnv → Rs (List CA)) (de : DEnv) : Rs D := (ea de).bind fun cs de1 => callCF n mu m dcs cs de1
section
variable {K : PySem.W.Frag} {kap : Kp} {xi : Xi} {F H : Hp} {sg : St} {de : DEnv} {O : Own?} {W : WX}
theorem call_C {n : Nat} {mu : Option Nat} {m : List D → Fo} {dcs : List D} {cs : List CA} {vs dvs : List V} {Q : VK} (hd : ∀ F, Reps K kap F dvs dcs) (R : RS K kap xi F H sg de O) (A : CAs K kap F sg vs cs)
    (hp : PE1 K kap (RlE K kap) xi F H sg de O W Q (callC n mu m dcs cs de)) : spD K kap n mu m (vs ++ dvs) H Q (WE W sg) := by
  unfold callC at hp
  split at hp
  · rename_i ds e
    split at hp
    · rename_i hc
      obtain ⟨hn, hs⟩ := hc
      obtain ⟨P, AR, hP, hN⟩ := args_of R A e
      have hm : P = none → mu = none := fun z => by
        have h1 := hN z
        rw [h1] at hs
        cases mu with
        | none => rfl
        | some k => cases hs
      refine ⟨F, ds ++ dcs, P, by rw [List.length_append]; exact hn, R.st0, args_more AR (hd F) hm, ?_⟩
      cases eo : m (ds ++ dcs) with
      | ret d q => rw [eo] at hp; exact fun v F' H' f r => ret_E R hP hN hp f r
      | retF d q => rw [eo] at hp; exact fun p F' H' f h1 h2 h3 _ => ret_F R hP hN (fz_of hp) f h1 h2 h3
      | ex c fs q => rw [eo] at hp; exact fun F' H' d f h1 => ret_X R hP hN hp f h1
      | bad => rw [eo] at hp; exact hp.elim
    · exact hp.elim
  · exact hp.elim
theorem call_CF {n : Nat} {mu : Option Nat} {m : List D → Fo} {dcs : List D} {cs : List CA} {vs dvs : List V} {Q : VK} (hd : ∀ F, Reps K kap F dvs dcs) (R : RS K kap xi F H sg de O) (A : CAs K kap F sg vs cs)
    (hp : PE1 K kap (RlF K kap) xi F H sg de O W Q (callCF n mu m dcs cs de)) : spD K kap n mu m (vs ++ dvs) H Q (WE W sg) := by
  unfold callCF at hp
  split at hp
  · rename_i ds e
    split at hp
    · rename_i hc
      obtain ⟨hn, hs⟩ := hc
      obtain ⟨P, AR, hP, hN⟩ := args_of R A e
      have hm : P = none → mu = none := fun z => by
        have h1 := hN z
        rw [h1] at hs
        cases mu with
        | none => rfl
        | some k => cases hs
      refine ⟨F, ds ++ dcs, P, by rw [List.length_append]; exact hn, R.st0, args_more AR (hd F) hm, ?_⟩
      cases eo : m (ds ++ dcs) with
      | ret d q => rw [eo] at hp; exact hp.elim
      | retF d q => rw [eo] at hp; exact fun p F' H' f h1 h2 h3 _ => ret_F R hP hN hp f h1 h2 h3
      | ex c fs q => rw [eo] at hp; exact fun F' H' d f h1 => ret_X R hP hN hp f h1
      | bad => rw [eo] at hp; exact hp.elim
    · exact hp.elim
  · exact hp.elim
end
/-- a def of the top (or a method), called with its last parameters left to the defaults dcs -/
structure DG (P : Program) (w : World) (K : PySem.W.Frag) (mg : Str → Option Value) (base : Heap) (kap : Kp) (k : Nat) (n : Nat) (mu : Option Nat) (m : List D → Fo) (dcs : List D) where
  f : Addr
  fd : FuncData
  ps : List Str
  ds : List Value
  dvs : List V
  ok : FnG P w K mg base (L2.CX P w) k f fd ps (spD K kap n mu m)
  kp : PySem.W.keepIn K (.ref f) = true
  bi : Binds K fd ps ds
  vs : Vals dvs ds
  rs : ∀ F, Reps K kap F dvs dcs
section
variable {kap : Kp} {xi : Xi} {X : Cx} {W : WX} {e o : Expr} {es : List Expr} {t : WX → TE} {ta : WX → TA} {ev : DEnv → Rs D} {ea : DEnv → Rs (List CA)} {pos p apos : Pos} {k n : Nat} {x : Str} {mu : Option Nat} {md : List D → Fo} {dcs : List D}
theorem snd_call {K : PySem.W.Frag} {dvs : List V} (hd : ∀ F, Reps K kap F dvs dcs) (ha : Snd K kap xi (RlC K kap) ta ea) : Snd K kap xi (RlE K kap) (fun W => tCallSD (spD K kap n mu md) dvs (WE W) (ta W)) (wCall n mu md dcs ea) := by
  intro W F H sg de O Q R hp
  refine ha.bind R hp fun vs cs F1 H1 de1 O1 R1 g1 A _ hp => ?_
  exact call_C hd R1 A hp
theorem snd_callF {K : PySem.W.Frag} {dvs : List V} (hd : ∀ F, Reps K kap F dvs dcs) (ha : Snd K kap xi (RlC K kap) ta ea) : Snd K kap xi (RlF K kap) (fun W => tCallSD (spD K kap n mu md) dvs (WE W) (ta W)) (wCallF n mu md dcs ea) := by
  intro W F H sg de O Q R hp
  refine ha.bind R hp fun vs cs F1 H1 de1 O1 R1 g1 A _ hp => ?_
  exact call_CF hd R1 A hp
theorem jCall (g : DG X.prog X.w X.K X.mg X.base kap k n mu md dcs) (hm : X.mg x = some (.ref g.f)) (hr : RoomG k X.A) (tk : Takes X W) (ha : JC kap xi X W (e :: es) ta ea) (hg : Gl X x := by rfl) (hdb : (x == ("__debug__" : Str)) = false := by decide)
    (he : starEach (e :: es) X.env = (false, eval e X.env) :: starEach es X.env := by rfl) (hpl : (backTo pos (starEach es X.env)).any (·.1) = false := by rfl) :
    JE kap xi X W (.Call (.Name x p) (e :: es) [] pos) (fun W => tCallSD (spD X.K kap n mu md) g.dvs (WE W) (ta W)) (wCall n mu md dcs ea) :=
  ⟨pe_callG g.ok hr hg hm g.kp g.bi g.vs (fun s => passAt tk s) ha.p hdb he hpl, snd_call g.rs ha.s⟩
theorem jCallF (g : DG X.prog X.w X.K X.mg X.base kap k n mu md dcs) (hm : X.mg x = some (.ref g.f)) (hr : RoomG k X.A) (tk : Takes X W) (ha : JC kap xi X W (e :: es) ta ea) (hg : Gl X x := by rfl) (hdb : (x == ("__debug__" : Str)) = false := by decide)
    (he : starEach (e :: es) X.env = (false, eval e X.env) :: starEach es X.env := by rfl) (hpl : (backTo pos (starEach es X.env)).any (·.1) = false := by rfl) :
    JF kap xi X W (.Call (.Name x p) (e :: es) [] pos) (fun W => tCallSD (spD X.K kap n mu md) g.dvs (WE W) (ta W)) (wCallF n mu md dcs ea) :=
  ⟨pe_callG g.ok hr hg hm g.kp g.bi g.vs (fun s => passAt tk s) ha.p hdb he hpl, snd_callF g.rs ha.s⟩
/-! ### methods: the receiver is the first argument -/
def isOb (c : Nat) (nm : Str) : D → Bool
  | .obj c' fs => c' == c && (fs.lookup nm).isNone
  | _ => false
def wMeth (c : Nat) (nm : Str) (n : Nat) (mu : Option Nat) (m : List D → Fo) (dcs : List D) (ev : DEnv → Rs D) (ea : DEnv → Rs (List CA)) (de : DEnv) : Rs D :=
  (ev de).bind fun d de1 => if isOb c nm d = true then (ea de1).bind fun cs de2 => callC n mu m dcs (.v d :: cs) de2 else .bad
def wMethF (c : Nat) (nm : Str) (n : Nat) (mu : Option Nat) (m : List D → Fo) (dcs : List D) (ev : DEnv → Rs D) (ea : DEnv → Rs (List CA)) (de : DEnv) : Rs D :=
  (ev de).bind fun d de1 => if isOb c nm d = true then (ea de1).bind fun cs de2 => callCF n mu m dcs (.v d :: cs) de2 else .bad
def wMethS (c : Nat) (nm : Str) (n : Nat) (mu : Option Nat) (m : List D → Fo) (dcs : List D) (i : Nat) (ea : DEnv → Rs (List CA)) (de : DEnv) : Rs D :=
  if ((slotAt i de).map (isOb c nm)).getD false = true then (ea de).bind fun cs de2 => callC n mu m dcs (.s i :: cs) de2 else .bad
def wMethSF (c : Nat) (nm : Str) (n : Nat) (mu : Option Nat) (m : List D → Fo) (dcs : List D) (i : Nat) (ea : DEnv → Rs (List CA)) (de : DEnv) : Rs D :=
  if ((slotAt i de).map (isOb c nm)).getD false = true then (ea de).bind fun cs de2 => callCF n mu m dcs (.s i :: cs) de2 else .bad
/-! ### C(e, ..): __init__ fills a new instance -/
/-- args, then __init__ on the empty instance -/
def makeC (c n : Nat) (m : List D → Fo) (ds : List D) (de : DEnv) : Rs D := if ds.length + 1 = n then (match m (.obj c [] :: ds) with
  | .ret .non (some d) => .ok d de
  | .ex c' fs (some _) => .ex c' fs de
  | _ => .bad) else .bad
def wMake (c n : Nat) (m : List D → Fo) (dcs : List D) (ea : DEnv → Rs (List D)) (de : DEnv) : Rs D := (ea de).bind fun ds de1 => makeC c n m (ds ++ dcs) de1
theorem make_C {K : PySem.W.Frag} {xi : Xi} {F H : Hp} {sg : St} {de : DEnv} {O : Own?} {c : Nat} {vs : List V} {ds : List D} {Q : VK} (R : RS K kap xi F H sg de O) (r : Reps K kap F vs ds)
    (hp : PE1 K kap (RlF K kap) xi F H sg de O W Q (makeC c n md ds de)) (a dx : Addr) (ha : H a = none) (hdx : H dx = none) (hne : dx ≠ a) :
    spD K kap n (some 0) md (.ref a :: vs) (upd (upd H dx (.own a)) a (.ins (kap c) dx [])) (fun v H2 => v = .non ∧ Q (.ref a) H2) (WE W sg) := by
  unfold makeC at hp
  split at hp
  · rename_i hn
    have s1 : Same H (upd (upd H dx (.own a)) a (.ins (kap c) dx [])) := fun b o e => by rw [upd_ne (ne_of_none e ha), upd_ne (ne_of_none e hdx)]; exact e
    have fa : F a = none := R.sub.free ha
    refine ⟨F, .obj c [] :: ds, some a, by rw [List.length_cons]; exact hn, ⟨R.sub.trans s1, R.nt, (R.tab.upd (.none hdx) (.ext (by simp) (by simp))).upd (.none (by rw [upd_ne (Ne.symm hne)]; exact ha)) (.ext (by simp) (by simp))⟩, ⟨congrArg Nat.succ r.length, fun i d h hm => ?_, fun k d e h => ?_, fun _ => ⟨0, _, rfl, rfl⟩⟩, ?_⟩
    · cases i with
      | zero => exact absurd rfl hm
      | succ i =>
        obtain ⟨v, h1, h2⟩ := r.get (i := i) (by simpa using h)
        exact ⟨v, by simpa using h1, h2⟩
    · cases e
      simp at h
      subst h
      exact ⟨a, rfl, rfl, fa, dx, [], upd_same, rfl, .nil⟩
    · have back : ∀ {F' H' : Hp} {q : Option D}, FPost K kap F (upd (upd H dx (.own a)) a (.ins (kap c) dx [])) F' H' (some a) q → RS K kap xi F' H' sg de O ∧ Go F H de O F' H' de O := fun {F' H' q} f => by
        have hO : ∀ i p, O i = some p → H' p = H p ∧ F' p = none := fun i p e => by
          obtain ⟨d, k4⟩ := R.heldOwn e
          have k3 := (R.held e).1
          obtain ⟨o, ho⟩ := k4.some
          have h2 := s1 p o ho
          have nz : some a ≠ some p := fun z => by cases z; rw [ha] at ho; cases ho
          refine ⟨by rw [f.keep p o h2 (fun ps z => k4.notTbl ps (by rw [ho, z])) nz, ho], ?_⟩
          cases z : F' p with
          | none => rfl
          | some u =>
            rcases f.fnew p (by rw [z]; simp) with w | w
            · exact absurd k3 w
            · rw [h2] at w; cases w
        refine ⟨R.keepO f.ex f.st0 hO, f.ex, fun b o e t _ => f.keep b o (s1 b o e) t (fun z => by cases z; rw [ha] at e; cases e), fun i b e => .inl ⟨i, e⟩, fun b e => ?_, fun b e => ?_, fun i d e => ⟨rfl, d, e⟩⟩
        · exact s1.free (f.dom b e)
        · exact (f.fnew b e).elim .inl fun z => .inr (.inl (s1.free z))
      cases eo : md (.obj c [] :: ds) with
      | ret d q =>
        rw [eo] at hp
        cases d with
        | non =>
          cases q with
          | some d' =>
            intro v F' H' f rv
            cases rv
            refine ⟨rfl, ?_⟩
            obtain ⟨R', g⟩ := back f
            obtain ⟨d2, e2, h1, h2⟩ := f.own a rfl
            cases e2
            exact hp (.ref a) F' H' O R' g ⟨a, rfl, h1, h2, R.nofresh ha⟩ fun _ z => by cases z; exact .inl ha
          | none => exact hp.elim
        | _ => exact hp.elim
      | ex c' fs q =>
        rw [eo] at hp
        cases q with
        | some d' =>
          intro F' H' d f h1
          obtain ⟨R', g⟩ := back f
          exact hp F' H' sg O d R' g h1
        | none => exact hp.elim
      | retF d q => rw [eo] at hp; exact hp.elim
      | bad => rw [eo] at hp; exact hp.elim
  · exact hp.elim
variable {tb : WX → TA} {eb : DEnv → Rs (List D)}
end
/-! ### C(e, .., k = v, ..) -/
/-- ar: written values, defaults that fill up, keywords' values, in the parameters' order -/
def wMakeK (c n : Nat) (m : List D → Fo) (ar : List D → List D → List D) (ea ek : DEnv → Rs (List D)) (de : DEnv) : Rs D := (ea de).bind fun ds de1 => (ek de1).bind fun zs de2 => makeC c n m (ar ds zs) de2
structure JK (kap : Kp) (xi : Xi) (X : Cx) (W : WX) (kws : List Keyword) (t : WX → TA) (ev : DEnv → Rs (List D)) : Prop where
  p : PK X kws (t W)
  s : Snd X.K kap xi (RlA X.K kap) t ev
section
variable {kap : Kp} {xi : Xi} {X : Cx} {W : WX} {e : Expr} {es : List Expr} {kws : List Keyword} {t : WX → TE} {ta tk : WX → TA} {ev : DEnv → Rs D} {ea ek : DEnv → Rs (List D)} {pos p kpos : Pos} {nm : Option Str} {k n j : Nat} {x : Str} {md : List D → Fo} {ks : List Str}
theorem jkNil : JK kap xi X W [] (fun _ => tNil) vNil := ⟨pk_nil, (jaNil (kap := kap) (X := X) (W := W)).s⟩
theorem jkCons (h : JE kap xi X W e t ev) (hr : JK kap xi X W kws ta ea) : JK kap xi X W (⟨nm, e, kpos⟩ :: kws) (fun W => tCons (t W) (ta W)) (vCons ev ea) := ⟨pk_cons h.p hr.p, by
  intro W F H sg de O Q R hp
  refine h.s.bind R hp fun v f F1 H1 de1 O1 R1 g1 r _ hp => ?_
  refine hr.s.bind R1 hp fun vs fs F2 H2 de2 O2 R2 g2 rs _ hp => ?_
  exact hp.done R2 New.refl R2.sub (.cons (Rep.mono g2.ex r) rs)⟩
/-- an __init__ as it is called with j values and the keywords ks -/
structure DK (P : Program) (w : World) (K : PySem.W.Frag) (mg : Str → Option Value) (base : Heap) (kap : Kp) (k n j : Nat) (ks : List Str) (md : List D → Fo) (ar : List D → List D → List D) where
  f : Addr
  fd : FuncData
  ps : List Str
  g : List Value → List Value → List Value
  gV : List V → List V → List V
  ok : FnG P w K mg base (L2.CX P w) k f fd ps (spD K kap n (some 0) md)
  kb : KBn K fd ps (j + 1) ks g gV
  ar : ∀ x (vs zs : List V), vs.length = j → zs.length = ks.length → ∃ ws, gV (.ref x :: vs) zs = .ref x :: ws ∧ ∀ F ds fs, Reps K kap F vs ds → Reps K kap F zs fs → Reps K kap F ws (ar ds fs)
def tMakeKSD (C : Addr) (n m : Nat) (sp : Sp) (gV : List V → List V → List V) (E : St → XK) (t tk : TA) : TE := fun sg H Q => t sg H fun vs H1 => tk sg H1 fun zs H2 => vs.length = n ∧ zs.length = m ∧ ∀ x dx, H2 x = none → H2 dx = none → dx ≠ x →
  sp (gV (.ref x :: vs) zs) (upd (upd H2 dx (.own x)) x (.ins C dx [])) (fun v H3 => v = .non ∧ Q (.ref x) H3) (E sg)
theorem run_makeKSD {C f : Addr} {fd : FuncData} {ps : List Str} {g : List Value → List Value → List Value} {gV : List V → List V → List V} {sp : Sp} {CX : CXT} {E : St → XK} {pins : List (Addr × Obj)} {sg : St} {H : Hp} {s : Shared} {Q : VK} {us ws : List Value} {vs zs : List V} (M : Mk X.K C f) (F : FnG X.prog X.w X.K X.mg X.base CX k f fd ps sp) (hr : RoomG (k + 1) X.A) (hb : KBn X.K fd ps (n + 1) ks g gV) (hx : PassesAt CX X sg (E sg))
    (I : Inv X pins sg H s) (r : Vals vs us) (rz : Vals zs ws) (l1 : vs.length = n) (l2 : zs.length = ks.length)
    (h : ∀ x dx, H x = none → H dx = none → dx ≠ x → sp (gV (.ref x :: vs) zs) (upd (upd H dx (.own x)) x (.ins C dx [])) (fun v H2 => v = .non ∧ Q (.ref x) H2) (E sg)) :
    wpAny (model X.prog X.w) X.A (call (.ref C) us (ks.zip ws)) (EP X pins sg Q) X.xe s := by
  have hq := h (s.heap.objs.size + 1) s.heap.objs.size (I.hok.fresh (Nat.le_succ _)) (I.hok.fresh (Nat.le_refl _)) (Nat.ne_of_lt (Nat.lt_succ_self _))
  have I2 := Inv.made (C := C) I
  have r1 : Vals (V.ref (s.heap.objs.size + 1) :: vs) (Value.ref (s.heap.objs.size + 1) :: us) := .cons rfl r
  have r2 := hb.rel r1 rz
  have n1 : (Value.ref (s.heap.objs.size + 1) :: us).length = n + 1 := by
    rw [List.length_cons, ← r.length, l1]
  refine wpAny_call (make_map (f := f) I.kIn M.makes M.init (beq_iff_eq.mp M.fn) (codeAny_mono (F.run _ X.stack _ _ ⟨Value.ref (s.heap.objs.size + 1) :: us, ks.zip ws⟩ (g (Value.ref (s.heap.objs.size + 1) :: us) ws) _ _ (E sg) (hr.make C us (ks.zip ws))
    (I2.env0.make C us (ks.zip ws)) (hb.to _ (Value.ref (s.heap.objs.size + 1) :: us) ws I2.kIn n1 (rz.length.symm.trans l2)) r2 hq) fun r s' hq' => ?_))
  cases r with
  | error e => exact hx pins _ _ e s' I2 hq'
  | ok fl =>
    cases fl with
    | ret u =>
      obtain ⟨v, H', I3, rv, ev, q3⟩ := I2.after hq'
      subst ev
      exact ⟨rv, ⟨V.ref (s.heap.objs.size + 1), H', I3, rfl, q3⟩⟩
    | next => exact False.elim hq'
    | brk => exact False.elim hq'
    | cont => exact False.elim hq'
theorem snd_makeK {ar : List D → List D → List D} (c : Nat) {K : PySem.W.Frag} {gV : List V → List V → List V} (har : ∀ x (vs zs : List V), vs.length = j → zs.length = ks.length → ∃ ws, gV (.ref x :: vs) zs = .ref x :: ws ∧ ∀ F ds fs, Reps K kap F vs ds → Reps K kap F zs fs → Reps K kap F ws (ar ds fs))
    (hj : ∀ de ds de', ea de = .ok ds de' → ds.length = j) (hz : ∀ de ds de', ek de = .ok ds de' → ds.length = ks.length) (ha : Snd K kap xi (RlA K kap) ta ea) (hk : Snd K kap xi (RlA K kap) tk ek) :
    Snd K kap xi (RlF K kap) (fun W => tMakeKSD (kap c) j ks.length (spD K kap n (some 0) md) gV (WE W) (ta W) (tk W)) (wMakeK c n md ar ea ek) := by
  intro W F H sg de O Q R hp
  unfold wMakeK at hp
  cases e1 : ea de with
  | ok ds0 de0 =>
    have l0 := hj _ _ _ e1
    refine ha W F H sg de O _ R ?_
    rw [e1] at hp ⊢
    intro vs F1 H1 O1 R1 g1 r _
    have hp := PE1.shift g1 hp
    have hp : PE1 K kap (RlF K kap) xi F1 H1 sg de0 O1 W Q ((ek de0).bind fun zs de2 => makeC c n md (ar ds0 zs) de2) := hp
    refine hk W F1 H1 sg de0 O1 _ R1 ?_
    cases e2 : ek de0 with
    | ok zs0 de2 =>
      have l2 := hz _ _ _ e2
      rw [e2] at hp
      intro zs F2 H2 O2 R2 g2 r2 _
      have hp := PE1.shift g2 hp
      have ll : vs.length = j := (Reps.length r).trans l0
      have lz : zs.length = ks.length := (Reps.length r2).trans l2
      refine ⟨ll, lz, fun a dx h1 h2 h3 => ?_⟩
      obtain ⟨ws, ew, hw⟩ := har a vs zs ll lz
      rw [ew]
      exact make_C R2 (hw F2 ds0 zs0 (Reps.mono g2.ex r) r2) hp a dx h1 h2 h3
    | ex c' fs de2 => rw [e2] at hp; exact hp
    | bad => rw [e2] at hp; exact hp
  | ex c' fs de0 =>
    refine ha W F H sg de O _ R ?_
    rw [e1] at hp ⊢
    exact hp
  | bad => rw [e1] at hp; exact hp.elim
theorem jMakeK (c : Nat) {C : Addr} {ar : List D → List D → List D} (hkc : kap c = C) (g : DK X.prog X.w X.K X.mg X.base kap k n j ks md ar) (M : Mk X.K C g.f) (hm : X.mg x = some (.ref C)) (hr : RoomG (k + 1) X.A) (tkx : Takes X W) (ha : JA kap xi X W (e :: es) ta ea) (hk : JK kap xi X W kws tk ek)
    (hj : ∀ de ds de', ea de = .ok ds de' → ds.length = j) (hz : ∀ de ds de', ek de = .ok ds de' → ds.length = ks.length)
    (hg : Gl X x := by rfl) (hall : (backToKw pos (keywordEach kws X.env)).all (·.1.isSome) = true := by rfl) (hks : (backToKw pos (keywordEach kws X.env)).filterMap (·.1) = ks := by rfl) (hdb : (x == ("__debug__" : Str)) = false := by decide)
    (he : starEach (e :: es) X.env = (false, eval e X.env) :: starEach es X.env := by rfl) (hpl : ((backTo pos (starEach (e :: es) X.env)).any (·.1) || (backToKw pos (keywordEach kws X.env)).any (·.1.isNone)) = false := by rfl) :
    JF kap xi X W (.Call (.Name x p) (e :: es) kws pos) (fun W => tMakeKSD C j ks.length (spD X.K kap n (some 0) md) g.gV (WE W) (ta W) (tk W)) (wMakeK c n md ar ea ek) := by
  subst hkc
  refine ⟨⟨fun pins s sg H Q I h => ?_⟩, snd_makeK c g.ar hj hz ha.s hk.s⟩
  refine wpAny_Call_Name_kw (ld_glob I hg hm ?_ hdb)
  refine PySem.W.callWith_KW (h₀ := X.base) I.ok.mod.kin M.kp hall (thn (ha.p.run pos pins s sg H _ I h) fun us s1 ⟨vs, H1, I1, r, q⟩ => ?_) hpl he
  refine thn (hk.p.run pos pins s1 sg H1 _ I1 q) fun ws s2 ⟨zs, H2, I2, rz, l1, l2, q2⟩ => ⟨I2.kIn, ?_⟩
  rw [hks]
  exact run_makeKSD M g.ok hr g.kb (passAt tkx sg) I2 r rz l1 l2 q2
end
end DL
set_option maxRecDepth 100000
set_option maxHeartbeats 2000000
set_option autoImplicit false
namespace DL
open PySem L2 PySem.Spec PyProof.Rows RT RZ
/-! ### what a loop walks -/
def ItOk (K : PySem.W.Frag) (kap : Kp) (J : It) (F1 : Hp) (ds : List D) : Prop := ∀ (i : Nat) (F2 H2 : Hp), Same F1 F2 → Same F2 H2 →
  (ds.length ≤ i → J.stop i H2) ∧ ∀ d, ds[i]? = some d → J.go i H2 ∧ ∀ x H', J.yld i H2 x H' → ∃ F', New kap.tab F2 H2 F' H' ∧ Same F' H' ∧ Rep K kap F' x d
theorem ItOk.mono {K : PySem.W.Frag} {kap : Kp} {J : It} {F1 F2 : Hp} {ds : List D} (e : Same F1 F2) (h : ItOk K kap J F1 ds) : ItOk K kap J F2 ds := fun i F H e1 e2 => h i F H (e.trans e1) e2
def RlI (K : PySem.W.Frag) (kap : Kp) : Rel It (List D) := { rel := fun _ F _ _ J ds => ItOk K kap J F ds }
structure JI (kap : Kp) (xi : Xi) (X : Cx) (W : WX) (tg iter : Expr) (wi : WX → TI) (ev : DEnv → Rs (List D)) : Prop where
  p : PI X tg iter (wi W)
  s : Snd X.K kap xi (RlI X.K kap) wi ev
def itemsOf : D → Option (List D)
  | .lst ds => some ds
  | .tup ds => some ds
  | .scr ds => some ds
  | _ => none
def vSeqI (ev : DEnv → Rs D) (de : DEnv) : Rs (List D) := (ev de).bind fun d de1 => ofO (itemsOf d) de1
section
variable {K : PySem.W.Frag} {kap : Kp} {xi : Xi} {F : Hp} {a b : Addr} {vs ws : List V} {ds es : List D}
theorem itl_ok (h : SqL K F a vs) (r : Reps K kap F vs ds) : ItOk K kap (Itl K a) F ds := fun i F2 H2 e1 e2 => by
  have h2 : SqL K H2 a vs := sqL_mono (e1.trans e2) h
  refine ⟨fun hl => ⟨vs, h2, by rw [r.length]; exact hl⟩, fun d hd => ?_⟩
  obtain ⟨v, g1, g2⟩ := r.get hd
  refine ⟨⟨vs, v, h2, g1⟩, fun x H' ⟨e, y⟩ => ?_⟩
  subst e
  have := y vs h2
  rw [g1] at this
  cases this
  exact ⟨F2, New.refl, e2, g2.mono e1⟩
theorem itt_ok (h : SqT K F a vs) (r : Reps K kap F vs ds) : ItOk K kap (Itt K a) F ds := fun i F2 H2 e1 e2 => by
  have h2 : SqT K H2 a vs := sqT_mono (e1.trans e2) h
  refine ⟨fun hl => ⟨vs, h2, by rw [r.length]; exact hl⟩, fun d hd => ?_⟩
  obtain ⟨v, g1, g2⟩ := r.get hd
  refine ⟨⟨vs, v, h2, g1⟩, fun x H' ⟨e, y⟩ => ?_⟩
  subst e
  have := y vs h2
  rw [g1] at this
  cases this
  exact ⟨F2, New.refl, e2, g2.mono e1⟩
def rangeD (lo : Int) (n : Nat) : List D := (List.range n).map fun i => .int (lo + (i : Nat))
theorem itr_ok (lo : Int) (n : Nat) : ItOk K kap (Itr lo n) F (rangeD lo n) := fun i F2 H2 e1 e2 => by
  refine ⟨fun hl => (show n ≤ i by simpa [rangeD] using hl), fun d hd => ?_⟩
  unfold rangeD at hd
  rw [List.getElem?_map] at hd
  by_cases il : i < n
  · rw [List.getElem?_range il] at hd
    cases hd
    refine ⟨il, fun x H' ⟨e, y⟩ => ?_⟩
    subst e y
    exact ⟨F2, New.refl, e2, .int _⟩
  · rw [List.getElem?_eq_none (by simpa using il)] at hd
    cases hd
def enumD : Nat → List D → List D
  | _, [] => []
  | n, d :: r => .tup [.int n, d] :: enumD (n + 1) r
theorem enumD_get : ∀ (n : Nat) (ds : List D) (i : Nat), (enumD n ds)[i]? = (ds[i]?).map fun d => .tup [.int ((n + i : Nat) : Int), d]
  | n, [], i => by simp [enumD]
  | n, d :: r, 0 => by simp [enumD]
  | n, d :: r, i + 1 => by
    simp only [enumD, List.getElem?_cons_succ, enumD_get (n + 1) r i]
    congr 1
    funext d
    congr 4
    omega
theorem enumD_len (n : Nat) (ds : List D) : (enumD n ds).length = ds.length := by
  induction ds generalizing n with
  | nil => rfl
  | cons d r ih => simp [enumD, ih]
theorem ite_ok (h : SqL K F a vs) (r : Reps K kap F vs ds) : ItOk K kap (Ite K a) F (enumD 0 ds) := fun i F2 H2 e1 e2 => by
  have h2 : SqL K H2 a vs := sqL_mono (e1.trans e2) h
  refine ⟨fun hl => ⟨vs, h2, by rw [r.length]; rw [enumD_len] at hl; exact hl⟩, fun d hd => ?_⟩
  rw [enumD_get] at hd
  obtain ⟨d', q1, q2⟩ := Option.map_eq_some_iff.mp hd
  obtain ⟨v, g1, g2⟩ := r.get q1
  refine ⟨⟨vs, v, h2, g1⟩, fun x H' ⟨T, x', ex, hT, eH, y⟩ => ?_⟩
  subst ex eH q2
  have := y vs h2
  rw [g1] at this
  cases this
  obtain ⟨n, s⟩ := New.one (o := .tup [.int (i : Nat), v]) e2 hT
  exact ⟨_, n, s, .tup (SqT.of upd_same) (.cons (by simpa using Rep.int _) (.cons ((g2.mono e1).mono n.f) .nil))⟩
def zipD (xs ys : List D) : List D := (xs.zip ys).map fun p => .tup [p.1, p.2]
/-- a frozen sequence -/
theorem rep_items {F : Hp} {v : V} {d : D} {ds : List D} (r : Rep K kap F v d) (h : itemsOf d = some ds) : ∃ a vs, v = .ref a ∧ Reps K kap F vs ds ∧ (SqL K F a vs ∨ SqT K F a vs) := by
  cases r with
  | tup h1 r => cases h; exact ⟨_, _, rfl, r, .inr h1⟩
  | lst h1 r => cases h; exact ⟨_, _, rfl, r, .inl (SqL.of h1)⟩
  | scr h1 r => cases h; exact ⟨_, _, rfl, r, .inl h1⟩
  | _ => cases h
end
def vRng1 (ev : DEnv → Rs D) (de : DEnv) : Rs (List D) := (ev de).bind fun d de1 => match d with
  | .int j => if -(2 ^ 62) ≤ j ∧ j < 2 ^ 62 then .ok (rangeD 0 j.toNat) de1 else .bad
  | _ => .bad
def vRng2 (ev ev' : DEnv → Rs D) (de : DEnv) : Rs (List D) := (ev de).bind fun d de1 => (ev' de1).bind fun d' de2 => match d, d' with
  | .int i, .int j => if -(2 ^ 62) ≤ i ∧ i < 2 ^ 62 ∧ -(2 ^ 62) ≤ j ∧ j < 2 ^ 62 then .ok (rangeD i (j - i).toNat) de2 else .bad
  | _, _ => .bad
def vRevI (ev : DEnv → Rs D) (de : DEnv) : Rs (List D) := (ev de).bind fun d de1 => ofO ((itemsOf d).map List.reverse) de1
def vEnumI (ev : DEnv → Rs D) (de : DEnv) : Rs (List D) := (ev de).bind fun d de1 => match d with
  | .lst ds => .ok (enumD 0 ds) de1
  | .scr ds => .ok (enumD 0 ds) de1
  | _ => .bad
def vZipI (ev ev' : DEnv → Rs D) (de : DEnv) : Rs (List D) := (ev de).bind fun d de1 => (ev' de1).bind fun d' de2 => match d, d' with
  | .lst xs, .lst ys => .ok (zipD xs ys) de2
  | .scr xs, .lst ys => .ok (zipD xs ys) de2
  | .lst xs, .scr ys => .ok (zipD xs ys) de2
  | .tup xs, .tup ys => .ok (zipD xs ys) de2
  | _, _ => .bad
section
variable {kap : Kp} {xi : Xi} {X : Cx} {W : WX} {tg e e' : Expr} {t t' : WX → TE} {ev ev' : DEnv → Rs D} {pos p tpos : Pos} {elts : List Expr} {kk : Nat}
theorem jiRng1 (hm : X.mg "range" = none) (h : JE kap xi X W e t ev) (hg : Gl X "range" := by rfl) (hs : starEach [e] X.env = [(false, eval e X.env)] := by rfl) : JI kap xi X W tg (.Call (.Name "range" p) [e] [] pos) (fun W => iRng1 (tCons (t W) tNil)) (vRng1 ev) := ⟨pi_range1 hg hm (pa_cons h.p pa_nil hs) hs, by
  intro W F H sg de O Q R hp
  refine h.s.bind R hp fun v d F1 H1 de1 O1 R1 g1 r _ hp => ?_
  cases r with
  | int j =>
    dsimp only at hp
    split at hp
    · rename_i hh
      exact ⟨j, rfl, hh.1, hh.2, hp.done R1 New.refl R1.sub (itr_ok _ _)⟩
    · exact hp.elim
  | _ => exact hp.elim⟩
end
/-! ### targets -/
structure JG (kap : Kp) (X : Cx) (tg : Expr) (g : TG) (is : List Nat) (ev : D → DEnv → Option DEnv) : Prop where
  p : PG X tg g
  s : ∀ xi F H sg de O v d de' Q, RS X.K kap xi F H sg de O → Rep X.K kap F v d → ev d de = some de' → (∀ sg' O', RS X.K kap xi F H sg' de' O' → Go F H de O F H de' O' → (∀ j, j ∉ is → sg'[j]? = sg[j]?) → sg'.length = sg.length → Q sg' H) → g v sg H Q
structure JGs (kap : Kp) (X : Cx) (tgs : List Expr) (g : TGs) (is : List Nat) (ev : List D → DEnv → Option DEnv) : Prop where
  p : PGs X tgs g
  s : ∀ xi F H sg de O vs ds de' Q, RS X.K kap xi F H sg de O → Reps X.K kap F vs ds → ev ds de = some de' → (∀ sg' O', RS X.K kap xi F H sg' de' O' → Go F H de O F H de' O' → (∀ j, j ∉ is → sg'[j]? = sg[j]?) → sg'.length = sg.length → Q sg' H) → g vs sg H Q
def tName (i : Nat) (d : D) (de : DEnv) : Option DEnv := some (de.set i (.va d))
def tgNil (ds : List D) (de : DEnv) : Option DEnv := match ds with | [] => some de | _ => none
def tgCons (f : D → DEnv → Option DEnv) (g : List D → DEnv → Option DEnv) (ds : List D) (de : DEnv) : Option DEnv := match ds with | [] => none | d :: r => (f d de).bind fun de1 => g r de1
def tgTup (n : Nat) (g : List D → DEnv → Option DEnv) (d : D) (de : DEnv) : Option DEnv := match d with | .tup ds => if ds.length = n then g ds de else none | _ => none
section
variable {kap : Kp} {xi : Xi} {X : Cx} {e : Expr} {es : List Expr} {g : TG} {gs : TGs} {is js : List Nat} {ev : D → DEnv → Option DEnv} {evs : List D → DEnv → Option DEnv} {pos : Pos}
theorem jgName (i : Nat) {x : Str} (hN : X.N.Nodup) (hi : X.N[i]? = some x := by rfl) (hx : Loc X.env.scope x := by first | exact Or.inl rfl | exact Or.inr rfl) (hf : X.fn x = true ∨ X.env.scope.names.lookup x = some .local := by first | exact .inl rfl | exact .inr rfl | assumption) :
    JG kap X (.Name x pos) (gName i) [i] (tName i) := ⟨pg_name hN hi hx hf, by
  intro xi F H sg de O v d de' Q R r e hq
  cases e
  obtain ⟨R2, g2⟩ := R.setv i r
  exact hq _ _ R2 g2 (fun j h => List.getElem?_set_ne fun z => h (by simp [z])) (List.length_set ..)⟩
theorem jgsNil : JGs kap X [] gNil [] tgNil := ⟨pgs_nil, by
  intro xi F H sg de O vs ds de' Q R r e hq
  cases r with
  | nil => cases e; exact ⟨rfl, hq _ _ R Go.refl (fun _ _ => rfl) rfl⟩
  | cons _ _ => cases e⟩
theorem jgsCons (h : JG kap X e g is ev) (hr : JGs kap X es gs js evs) (hs : (assignEach (e :: es) X.env).map (·.2) = assign e X.env :: (assignEach es X.env).map (·.2) := by rfl) : JGs kap X (e :: es) (gCons g gs) (is ++ js) (tgCons ev evs) := ⟨pgs_cons h.p hr.p hs, by
  intro xi F H sg de O vs ds de' Q R r e hq
  cases r with
  | nil => cases e
  | cons r rr =>
    obtain ⟨de1, e1, e2⟩ := bind_some e
    refine ⟨_, _, rfl, h.s xi F H sg de O _ _ de1 _ R r e1 fun sg1 O1 R1 g1 k1 l1 => ?_⟩
    exact hr.s xi F H sg1 de1 O1 _ _ de' _ R1 rr e2 fun sg2 O2 R2 g2 k2 l2 => hq sg2 O2 R2 (g1.trans g2) (fun j hj => by
      rw [List.mem_append, not_or] at hj
      rw [k2 j hj.2, k1 j hj.1]) (l2.trans l1)⟩
theorem jgTup {k : Nat} (n : Nat) (h : JGs kap X es gs is evs) (hc : X.calm = true := by rfl) (hn : (assignEach es X.env).length = n := by rfl) (hst : (assignEach es X.env).findIdx? (·.1) = none := by rfl) : JG kap X (.Tuple es k pos) (gTup X.K n gs) is (tgTup n evs) := ⟨pg_tup hc h.p hn hst, by
  intro xi F H sg de O v d de' Q R r e hq
  cases r with
  | tup h1 rr =>
    unfold tgTup at e
    dsimp only at e
    split at e
    · rename_i hl
      exact ⟨_, _, rfl, sqT_mono R.sub h1, by rw [rr.length]; exact hl, h.s xi F H sg de O _ _ de' _ R rr e hq⟩
    · cases e
  | _ => cases e⟩
end
/-! ### for -/
def vLoop (g : D → DEnv → Option DEnv) (tb : DEnv → Ot) : List D → DEnv → Ot
  | [], de => .nx de
  | d :: r, de => match g d de with
    | none => .bad
    | some de1 => match tb de1 with
      | .nx de2 => vLoop g tb r de2
      | .ct de2 => vLoop g tb r de2
      | .brk de2 => .nx de2
      | .ret d de2 => .ret d de2
      | .retF d de2 => .retF d de2
      | .ex c fs de2 => .ex c fs de2
      | .bad => .bad
def vFor (ei : DEnv → Rs (List D)) (g : D → DEnv → Option DEnv) (tb : DEnv → Ot) (de : DEnv) : Ot := (ei de).out fun ds de1 => vLoop g tb ds de1
section
variable {kap : Kp} {xi : Xi} {X : Cx} {W : WX} {tg iter e : Expr} {body : List Stmt} {wi : WX → TI} {g : TG} {is : List Nat} {ei : DEnv → Rs (List D)} {eg : D → DEnv → Option DEnv} {tb : WX → TS} {eb : DEnv → Ot} {t : WX → TE} {ev : DEnv → Rs D} {pos : Pos}
theorem jFor (hp : PassesOwn (model X.prog X.w) X.A X.env X.xe) (hi : JI kap xi X W tg iter wi ei) (hg : JG kap X tg g is eg) (hb : JSs kap xi X W body tb eb) (hc : X.calm = true := by rfl) (hs : ∀ x, foldedSetIterable iter X.env x = pure x := by intro _; rfl) :
    JS kap xi X W (.For tg iter body [] pos) (fun W => tFor (wi W) g (tb W)) (vFor ei eg eb) := ⟨ps_for hp hc hi.p hg.p hb.p hs, by
  intro W F H sg de O Dn R hp
  refine hi.s.out R hp fun J ds F1 H1 de1 O1 R1 g1 ij _ hp => ?_
  refine ⟨fun i m σ Hc => m = ds.length - i ∧ i ≤ ds.length ∧ ∃ Fc dc Oc, Same F1 Fc ∧ RS X.K kap xi Fc Hc σ dc Oc ∧ PS1 X.K kap xi Fc Hc dc Oc W Dn (vLoop eg eb (ds.drop i) dc), ⟨ds.length, by simp, Nat.zero_le _, F1, de1, O1, Same.refl _, R1, by simpa using hp⟩, ?_⟩
  rintro i m σ Hc ⟨rfl, hil, Fc, dc, Oc, ex, Rc, hq⟩
  obtain ⟨hstop, hgo⟩ := ij i Fc Hc ex Rc.sub
  by_cases hlt : i < ds.length
  · have hd : ds[i]? = some ds[i] := by simp [hlt]
    obtain ⟨go, hy⟩ := hgo _ hd
    refine .inr ⟨go, fun σ' H' => ∃ Fc dc Oc, Same F1 Fc ∧ RS X.K kap xi Fc H' σ' dc Oc ∧ PS1 X.K kap xi Fc H' dc Oc W Dn (vLoop eg eb (ds.drop (i + 1)) dc), fun σ' H' p' => ⟨ds.length - (i + 1), by omega, rfl, hlt, p'⟩, fun x H' y => ?_⟩
    obtain ⟨F2, n2, s2, r2⟩ := hy x H' y
    have R2 := Rc.new n2 s2
    have hq := PS1.shift (n2.go (de := dc) (O := Oc)) hq
    rw [List.drop_eq_getElem_cons hlt] at hq
    unfold vLoop at hq
    cases eg1 : eg ds[i] dc with
    | none => rw [eg1] at hq; exact hq.elim
    | some dc1 =>
      rw [eg1] at hq
      refine hg.s xi F2 H' σ dc Oc x _ dc1 _ R2 r2 eg1 fun sg' O' R3 g3 _ _ => ?_
      have hq := PS1.shift g3 hq
      dsimp only at hq
      refine hb.s W F2 H' sg' dc1 O' _ R3 ?_
      cases eo : eb dc1 with
      | nx dc2 =>
        rw [eo] at hq
        exact fun F' H'' sg'' O'' R4 g4 => ⟨F', dc2, O'', (ex.trans n2.f).trans g4.ex, R4, PS1.shift g4 hq⟩
      | ct dc2 =>
        rw [eo] at hq
        exact fun F' H'' sg'' O'' R4 g4 => ⟨F', dc2, O'', (ex.trans n2.f).trans g4.ex, R4, PS1.shift g4 hq⟩
      | brk dc2 => rw [eo] at hq; exact hq
      | ret d dc2 => rw [eo] at hq; exact hq
      | retF d dc2 => rw [eo] at hq; exact hq
      | ex c fs dc2 => rw [eo] at hq; exact hq
      | bad => rw [eo] at hq; exact hq.elim
  · refine .inl ⟨hstop (Nat.le_of_not_lt hlt), ?_⟩
    rw [List.drop_eq_nil_of_le (Nat.le_of_not_lt hlt)] at hq
    exact hq Fc Hc σ Oc Rc Go.refl⟩
/-- a, b = .. -/
def vAsg (ev : DEnv → Rs D) (g : D → DEnv → Option DEnv) (de : DEnv) : Ot := (ev de).out fun d de1 => match g d de1 with | some de2 => .nx de2 | none => .bad
end
end DL
set_option maxRecDepth 100000
set_option maxHeartbeats 2000000
set_option autoImplicit false
/-! an own exception whose __init__ calls super().__init__(text) and keeps its argument -/
namespace DX
open PySem PySem.Spec PySem.W PySem.Calls PyProof.Rows PySem.HandSPX
abbrev veTail : List Value := [.type "ValueError", .type "Exception", .type "BaseException", .type "object"]
theorem boot_super : bootBuiltins ("super" : Str) = some (.type "super") := by kernel_rfl
structure XT (P : Program) (K : Frag) (C fI cda cc : Addr) (fnm qual : Str) (ar : Arguments) (bo : List Stmt) (sc : Scope) (par : Str) : Prop where
  cls : ∃ nm q N bs bm sn sub ab col dd k0 k1 k2 k3 k5, K.lookup C = some (excClassObj nm q C N bs bm true sn sub ab col dd k0 k1 k2 k3 k5 "ValueError.__new__") ∧ refsVE bm = true
  sa : findIn K (.ref C) "__setattr__" = some (some (.builtin "object.__setattr__"))
  iC : findIn K (.ref C) "__init__" = some (some (.ref fI))
  tC : typeIn K (.ref fI) = some (.type "function")
  kC : keepIn K (.ref C) = true
  exC : subIn K (.ref C) (.type "BaseException") = some true
  tyC : typeIn K (.ref C) = some (.type "type")
  ei : excInitIn K C veTail "ValueError.__new__" = true
  sI : ks_superIn K C C "__init__" = some (some (.builtin "ValueError.__init__"))
  ve : subIn K (.ref C) (.type "ValueError") = some true
  mC : mroIn K C (.ref C) = some true
  any : nsIn K cStatics "thirdparty.any" = some none
  nos : nsIn K mainGlobals "super" = some none
  noN : findIn K (.ref C) par = some none
  fn : ∃ oc od osl doc pm an ct, K.lookup fI = some ⟨oc, od, .func (ksFn fnm qual ar bo sc .none .none doc pm an (.ref cda) ct cc), osl⟩ ∧ codeIn K (.ref cda) qual = true
  cdo : ∃ ccl cdd ccs vs file tf, K.lookup cda = some ⟨ccl, cdd, .fields vs, ccs⟩ ∧ vs[2]? = some (.str file tf) ∧ ((P.main.file : Str) == file) = true
  cel : ∃ cl cld csl, K.lookup cc = some ⟨cl, cld, .cell (some (.ref C)), csl⟩
  top : (P.main.scope.names.lookup ("super" : Str)).isSome = false
/-- what the module says, without the exception -/
structure Md (K : Frag) (mg : Str → Option Value) (h₀ : Heap) : Prop where
  kin : K.In h₀
  glob : h₀.Ns mainGlobals mg
  blt : ∃ mb, h₀.Ns builtinsNs mb ∧ ∀ x : Str, x ≠ "__name__" → mb x = bootBuiltins x
theorem clsIn_mro {K : Frag} {C : Addr} (h : mroIn K C (.ref C) = some true) : ∃ cd, clsIn K C = some cd := by
  cases e : clsIn K C with
  | none => unfold mroIn at h; rw [e] at h; cases h
  | some cd => exact ⟨cd, rfl⟩
section
variable {P : Program} {w : World} {A : Around} {E : Value → Shared → Prop} {s : Shared} {K : Frag} {mg : Str → Option Value} {C fI cda cc : Addr} {fnm qual par : Str} {ar : Arguments} {bo body : List Stmt} {sc : Scope} {h₀ : Heap} {L x t0 : Addr} {m : Str → Option Value}
/-- the super object -/
theorem sup_node {p0 p1 : Pos} {whole : Sem Value} {Q : Value → Shared → Prop} {news : List (Addr × Obj)} {ox : Obj} {odx : Option Obj} {ar0 : Arg} (T : XT P K C fI cda cc fnm qual ar bo sc par) (G : Md K mg h₀) (F : Fr h₀ L s.heap m) (N : News h₀ L s.heap news)
    (hp : (ar.posonlyargs ++ ar.args).head? = some ar0) (hv : m ar0.arg = some (.ref x)) (I : InstAt s.heap x ox C odx)
    (hks : sc.names.lookup ("super" : Str) = some .globalImplicit) (hkc : sc.names.lookup ("__class__" : Str) = some .free) (hka : sc.names.lookup ar0.arg = some .local) (hk : sc.kind = .function)
    (h : ∀ so h', Fr h₀ L h' m → News h₀ L h' ((so, ks_superObj C x C) :: news) → (∀ p ∈ news, p.1 < so) → Q (.ref so) { s with heap := h' }) :
    _root_.PySem.wpAt (model P w) A (.func body (ksEnv qual sc L fI (.ref cda) cc)) (attributeBase (.Call (.Name "super" p0) [] [] p1) "__init__" (ksEnv qual sc L fI (.ref cda) cc) whole) Q E s := by
  obtain ⟨oc, od, osl, doc, pm, an, ct, hf, _⟩ := T.fn
  obtain ⟨ccl, cdd, ccs, vs, file, tf, hcode, hvs, hfile⟩ := T.cdo
  obtain ⟨cl, cld, csl, hcell⟩ := T.cel
  obtain ⟨cdD, hD⟩ := clsIn_mro T.mC
  obtain ⟨mb, hb1, hb2⟩ := G.blt
  have XH : K.In s.heap := G.kin.keeps F.keep
  obtain ⟨hh, g, d, t, os⟩ := s
  have hcls : ∃ oD, hh.get? C = some oD ∧ oD.data = .cls cdD := by
    unfold clsIn at hD
    split at hD
    · rename_i q
      cases hD
      exact ⟨_, XH _ _ q, rfl⟩
    · cases hD
  obtain ⟨oD, hD1, hD2⟩ := hcls
  refine ks_wpAt_super_base hks hkc rfl rfl (XH _ _ hf) rfl hp rfl (XH _ _ hcode) rfl hvs hfile T.top ?_
  refine ks_loadName_global hk hks ?_
  refine loadGlobal_builtin (G.glob.keeps F.keep) (mg_none_of G.kin G.glob T.nos) (hb1.keeps F.keep) ((hb2 _ (by decide)).trans boot_super) ⟨rfl, ?_⟩
  refine wpAny_loadName_free hk hkc rfl ⟨_, XH _ _ hcell, rfl⟩ ?_
  refine wpAny_loadName_local hk hka F.ns hv ?_
  refine ks_wpAny_isType_cls hD1 hD2 ⟨rfl, ?_⟩
  refine ks_wpAny_call_super hD1 hD2 I.at_ I.cls (fun c e => ?_) (looks_mroIn XH T.mC) fun h' e k => ?_
  · have z := I.no
    unfold notCls at z
    rw [e] at z
    cases z
  · obtain ⟨F', N', l'⟩ := ks_newsPush (s := ⟨hh, g, d, t, os⟩) F N rfl e k
    exact h _ _ F' N' l'
/-- super().__init__(e) -/
theorem sup_step {p0 p1 p2 p3 p4 : Pos} {ea : Expr} {Q : Flow → Shared → Prop} {ar0 : Arg} (T : XT P K C fI cda cc fnm qual ar bo sc par) (G : Md K mg h₀) (F : Fr h₀ L s.heap m) (N : News h₀ L s.heap [(x, excObj C t0 none .none)])
    (hp : (ar.posonlyargs ++ ar.args).head? = some ar0) (hv : m ar0.arg = some (.ref x))
    (hks : sc.names.lookup ("super" : Str) = some .globalImplicit) (hkc : sc.names.lookup ("__class__" : Str) = some .free) (hka : sc.names.lookup ar0.arg = some .local) (hk : sc.kind = .function)
    (hev : ∀ (s' : Shared) (Q' : Value → Shared → Prop), s'.heap.Ns L m → (∀ u k, Q' u { s' with toks := k }) → wpAny (model P w) A (eval ea (ksEnv qual sc L fI (.ref cda) cc)) Q' E s')
    (h : ∀ t' h' k, Fr h₀ L h' m → News h₀ L h' [(x, excObj C t' none .none)] → Q .next { s with heap := h', toks := k })
    (hst : starEach [ea] (ksEnv qual sc L fI (.ref cda) cc) = (false, eval ea (ksEnv qual sc L fI (.ref cda) cc)) :: starEach [] (ksEnv qual sc L fI (.ref cda) cc) := by rfl)
    (hin : interactive (ksEnv qual sc L fI (.ref cda) cc) = false := by rfl)
    {pl : Sem Bool} (he : eval (.Call (.Attribute (.Call (.Name "super" p0) [] [] p1) "__init__" p2) [ea] [] p3) (ksEnv qual sc L fI (.ref cda) cc) = (do
      let ov ← attributeBase (.Call (.Name "super" p0) [] [] p1) "__init__" (ksEnv qual sc L fI (.ref cda) cc) (eval (.Call (.Name "super" p0) [] [] p1) (ksEnv qual sc L fI (.ref cda) cc))
      standAt p2.atName
      let (f, first) ← holding [ov] (getMethod ov "__init__" pl)
      callWith p3 f first (backTo p3 (starEach [ea] (ksEnv qual sc L fI (.ref cda) cc))) []) := by rfl) :
    _root_.PySem.wpAt (model P w) A (.func body (ksEnv qual sc L fI (.ref cda) cc)) (exec (.Expr (.Call (.Attribute (.Call (.Name "super" p0) [] [] p1) "__init__" p2) [ea] [] p3) p4) (ksEnv qual sc L fI (.ref cda) cc)) Q E s := by
  refine ks_wpAt_Expr_any (hi := hin) (ks_wpAt_MethodCall (pl := pl) ?_ he)
  have XH : K.In s.heap := G.kin.keeps F.keep
  refine sup_node T G F N hp hv (InstAt.of_exc0 N (.head _)) hks hkc hka hk fun so h1 F1 N1 l1 => ?_
  refine kxs_method (s := { s with heap := h1 }) kxs_ValueError F1 G.kin N1 (.head _) (InstAt.of_exc0 N1 (.tail _ (.head _))) T.any T.sI T.ve rfl fun q h2 F2 N2 l2 => ?_
  refine kxs_callWith1 N2 (.head _) (args_cons (hev _ _ F2.ns fun u k => args_nil ⟨kxs_at N2 (.head _), ?_⟩) hst) hst rfl
  have nso : so ≠ x := fun z => by
    have := l1 (x, excObj C t0 none .none) (.head _)
    rw [z] at this
    exact absurd this (Nat.lt_irrefl _)
  have nq : q ≠ x := fun z => by
    have := l2 (x, excObj C t0 none .none) (.tail _ (.head _))
    rw [z] at this
    exact absurd this (Nat.lt_irrefl _)
  refine kxs_call (s := { s with heap := h2, toks := k }) F2 G.kin N2 PySem.F.excBase_ValueError T.ei (.head _) (.tail nq (.tail nso (.head fun _ h => nomatch h))) (by rw [sizeLine_eq]; exact (by decide : 1 ≤ 16777216)) fun t' h3 F3 N3 l3 => ?_
  exact h t' h3 k F3 fun p hp => N3 p (.tail _ (.tail _ (.tail _ hp)))
/-- what __init__ leaves of a fresh exception at x -/
structure InitEnd (K : Frag) (h h' : Heap) (x C dx t1 : Addr) (par : Str) (v : Value) : Prop where
  keep : ∀ b o, b ≠ x → h.get? b = some o → h'.get? b = some o
  obj : h'.get? x = some { cls := .ref C, dict := some dx, data := .fields #[.ref t1, .none, .none, .none, .bool false, .none] }
  dbig : h.objs.size ≤ dx
  dne : dx ≠ x
  ns : h'.Ns1 dx (fun y => if y = par then some v else none)
variable {R : Result → Shared → Prop} {v : Value}
abbrev binds2 (par : Str) (x : Addr) (v : Value) : List (Str × Value) := [("self", .ref x), (par, v)]
abbrev mp2 (par : Str) (x : Addr) (v : Value) : Str → Option Value := fun y => (binds2 par x v).reverse.lookup y
theorem init_two {a0 a1 a2 a3 a4 b0 b1 b2 b3 : Pos} {ea : Expr} (T : XT P K C fI cda cc fnm qual ar [.Expr (.Call (.Attribute (.Call (.Name "super" a0) [] [] a1) "__init__" a2) [ea] [] a3) a4, .Assign [.Attribute (.Name "self" b0) par b1] (.Name par b2) b3] sc par)
    (G : Md K mg s.heap) (hx : s.heap.get? x = some (excO C t0)) (hnx : K.lookup x = none) (hng : x ≠ mainGlobals) (hnb : x ≠ builtinsNs) (hlim : s.heap.NoLimit) (hroom : A.depth < recursionLimit)
    (hself : sc.names.lookup ("self" : Str) = some .local) (hpar : sc.names.lookup par = some .local) (hks : sc.names.lookup ("super" : Str) = some .globalImplicit) (hkc : sc.names.lookup ("__class__" : Str) = some .free) (hk : sc.kind = .function)
    (hco : sc.isCoroutine = false) (hgen : sc.isGenerator = false) (hcell : ∀ y ∈ sc.names, y.2 ≠ .cell) (hps : par ≠ "self") (hpd : (par == ("__debug__" : Str)) = false)
    {ar0 : Arg} (hp : (ar.posonlyargs ++ ar.args).head? = some ar0) (har : ar0.arg = "self")
    (hbind : ∀ (s : Shared) (bo : List Stmt) (doc pm : Value) (an : Option Addr) (ct : Value), BindsTo s (ksFn fnm qual ar bo sc .none .none doc pm an (.ref cda) ct cc) ⟨[.ref x, v], []⟩ (binds2 par x v))
    (hev : ∀ (L : Addr) (A : Around) (E : Value → Shared → Prop) (s' : Shared) (Q' : Value → Shared → Prop), s'.heap.Ns L (mp2 par x v) → (∀ u k, Q' u { s' with toks := k }) → wpAny (model P w) A (eval ea (ksEnv qual sc L fI (.ref cda) cc)) Q' E s')
    (hst : ∀ L, starEach [ea] (ksEnv qual sc L fI (.ref cda) cc) = (false, eval ea (ksEnv qual sc L fI (.ref cda) cc)) :: starEach [] (ksEnv qual sc L fI (.ref cda) cc))
    (hin : ∀ L, interactive (ksEnv qual sc L fI (.ref cda) cc) = false)
    (hsw : ∀ L, swapsWith (.Name par b2) (some (.Attribute (.Name "self" b0) par b1)) b3.line (ksEnv qual sc L fI (.ref cda) cc) = pure false)
    {pl : Sem Bool} (he : ∀ L, eval (.Call (.Attribute (.Call (.Name "super" a0) [] [] a1) "__init__" a2) [ea] [] a3) (ksEnv qual sc L fI (.ref cda) cc) = (do
      let ov ← attributeBase (.Call (.Name "super" a0) [] [] a1) "__init__" (ksEnv qual sc L fI (.ref cda) cc) (eval (.Call (.Name "super" a0) [] [] a1) (ksEnv qual sc L fI (.ref cda) cc))
      standAt a2.atName
      let (f, first) ← holding [ov] (getMethod ov "__init__" pl)
      callWith a3 f first (backTo a3 (starEach [ea] (ksEnv qual sc L fI (.ref cda) cc))) []))
    (hq : ∀ h' tk dx t1, InitEnd K s.heap h' x C dx t1 par v → R (.ok (.ret .none)) { s with heap := h', toks := tk }) :
    codeAny (model P w) A (.call (.ref fI) ⟨[.ref x, v], []⟩) R s := by
  obtain ⟨oc, od, osl, doc, pm, an, ct, ho, hcd⟩ := T.fn
  obtain ⟨nm, q, N0, bs, bm, sn, sub, ab, col, dd, k0, k1, k2, k3, k5, hC, hbm⟩ := T.cls
  have hcl : clsIn K C = some { name := nm, bases := bs, mro := .ref C :: bm, ns := N0, qualname := q, hasDict := true, slotNames := sn, subclasses := sub, abstract := ab, collection := col, hasDel := false } := by unfold clsIn; rw [hC] <;> rfl
  have XH := G.kin
  refine ks_codeAny_call_defAt (binds := binds2 par x v) hroom (XH _ _ ho) rfl hlim (codeRec_of XH hcd) rfl (hbind _ _ _ _ _ _) hcell (fun y hy => ?_) (fun h₁ hn hk1 => ?_) hco hgen hk
  · rcases List.mem_cons.mp hy with rfl | hy
    · exact hself
    · rcases List.mem_cons.mp hy with rfl | hy
      · exact hpar
      · cases hy
  have hxl := Heap.lt_size hx
  have hb : ∀ b o, (hideAll s.heap [x]).get? b = some o → h₁.get? b = some o := fun b o e => hk1 b o (of_hideAll _ e)
  have F0 : Fr (hideAll s.heap [x]) s.heap.objs.size h₁ (mp2 par x v) := ⟨hn, hb, Nat.le_of_eq (hideAll_size _ _)⟩
  have hid : ∀ b o, s.heap.get? b = some o → b ≠ x → (hideAll s.heap [x]).get? b = some o := fun b o e n => hideAll_get _ e (by simpa using n)
  have kin' : K.In (hideAll s.heap [x]) := fun a o e => hid a o (XH a o e) fun z => by rw [z, hnx] at e; cases e
  have G0 : Md K mg (hideAll s.heap [x]) := by
    refine ⟨kin', ?_, ?_⟩
    · exact G.glob.at fun o e => hid _ o e (Ne.symm hng)
    · obtain ⟨mb, h1, h2⟩ := G.blt
      exact ⟨mb, h1.at fun o e => hid _ o e (Ne.symm hnb), h2⟩
  have N1 : News (hideAll s.heap [x]) s.heap.objs.size h₁ [(x, excObj C t0 none .none)] := fun p hp => by
    have e : p = (x, excObj C t0 none .none) := by simpa using hp
    subst e
    exact ⟨hk1 _ _ hx, Nat.ne_of_lt hxl, hideAll_none _ (List.mem_singleton.mpr rfl)⟩
  have hms : mp2 par x v "self" = some (.ref x) := by
    show List.lookup ("self" : Str) [(par, v), ("self", Value.ref x)] = some (.ref x)
    have : (("self" : Str) == par) = false := by simpa using Ne.symm hps
    simp [List.lookup, this]
  have hmp : mp2 par x v par = some v := by
    show List.lookup par [(par, v), ("self", Value.ref x)] = some v
    simp [List.lookup]
  refine ks_wpAt_execs_cons ?_
  refine sup_step (s := { s with heap := h₁, toks := _ }) T G0 F0 N1 hp (by rw [har]; exact hms) hks hkc (by rw [har]; exact hself) hk (fun s' Q' hn' hq' => hev _ _ _ s' Q' hn' hq') (fun t' h2 k F2 N2 => ?_) (hst _) (hin _) (he _)
  refine ks_wpAt_execs_cons (ks_wpAt_Assign_Attr ?_ (hsw _))
  have X2 : K.In h2 := G0.kin.keeps F2.keep
  have hx2 := (N2 _ (.head _)).1
  refine wpAt_of_wpAny (ESX.ldL (s := { s with heap := h2, toks := k }) (env := ksEnv qual sc s.heap.objs.size fI (.ref cda) cc) F2.ns hmp ?_ hk hpar hpd)
  refine ESX.ldL (s := { s with heap := h2, toks := k }) (env := ksEnv qual sc s.heap.objs.size fI (.ref cda) cc) F2.ns hms ?_ hk hself rfl
  refine set_plain X2 (ox := excO C t') (od := none) ⟨hx2, rfl, rfl, trivial⟩ T.sa ?_
  refine PySem.HandSPX.exc_osa X2 hx2 hcl (show refsVE (.ref C :: bm) = true from hbm) rfl T.noN (fun h₃ tk₃ dx k₃ dn dne hx₃ hn₃ => ?_)
  refine wpAt_of_wpAny (wpAny_execs_nil (hq h₃ tk₃ dx t' ⟨fun b o hb' e => k₃ b o hb' (F2.keep b o (hid b o e hb')), hx₃, ?_, dne, hn₃⟩))
  exact Nat.le_of_lt (Nat.lt_of_lt_of_le F2.ns.lt dn)
end
end DX
namespace DX
open PySem PySem.Spec PySem.W PySem.Calls PyProof.Rows PySem.HandSPX
/-- an own exception class with one argument (kept as par; ok: which values it may have), without -/
structure XCl (K : Frag) (C fI : Addr) : Prop where
  cls : ∃ nm q N bs bm sn sub ab col dd k0 k1 k2 k3 k5, K.lookup C = some (excClassObj nm q C N bs bm true sn sub ab col dd k0 k1 k2 k3 k5 "ValueError.__new__") ∧ refsVE bm = true
  iC : findIn K (.ref C) "__init__" = some (some (.ref fI))
  tC : typeIn K (.ref fI) = some (.type "function")
  kC : keepIn K (.ref C) = true
  exC : subIn K (.ref C) (.type "BaseException") = some true
  tyC : typeIn K (.ref C) = some (.type "type")
theorem XT.cl {P : Program} {K : Frag} {C fI cda cc : Addr} {fnm qual par : Str} {ar : Arguments} {bo : List Stmt} {sc : Scope} (T : XT P K C fI cda cc fnm qual ar bo sc par) : XCl K C fI := ⟨T.cls, T.iC, T.tC, T.kC, T.exC, T.tyC⟩
structure X2 (P : Program) (w : World) (K : Frag) (mg : Str → Option Value) (C : Addr) (par : Str) (ok : L2.V → Prop) where
  fI : Addr
  cl : XCl K C fI
  run : ∀ (A : Around) (R : Result → Shared → Prop) (s : Shared) (x t0 : Addr) (v : L2.V) (u : Value), Md K mg s.heap → s.heap.get? x = some (excO C t0) → K.lookup x = none → x ≠ mainGlobals → x ≠ builtinsNs → s.heap.NoLimit → A.depth < recursionLimit → L2.RelV v u → ok v →
    (∀ h' tk dx t1, InitEnd K s.heap h' x C dx t1 par u → R (.ok (.ret .none)) { s with heap := h', toks := tk }) → codeAny (model P w) A (.call (.ref fI) ⟨[.ref x, u], []⟩) R s
end DX
set_option maxRecDepth 100000
set_option maxHeartbeats 2000000
set_option autoImplicit false
namespace DL
open PySem L2 PySem.Spec PyProof.Rows
/-! ### C(e), C(), the exception made -/
theorem relO_one {par : Str} {v : V} {u : Value} (r : RelV v u) (f : Str) : RelO (List.lookup f [(par, v)]) (if f = par then some u else none) := by
  by_cases hw : f = par
  · subst hw
    have q : List.lookup f [(f, v)] = some v := by simp [List.lookup]
    rw [q, if_pos rfl]
    exact r
  · have qw : (f == par) = false := by simpa using hw
    have q : List.lookup f [(par, v)] = none := by simp [List.lookup, qw]
    rw [q, if_neg hw]
    trivial
section
variable {X : Cx} {C : Addr} {par x : Str} {ok : V → Prop}
def tMk2 (C : Addr) (par : Str) (ok : V → Prop) (ta : TA) : L2.St → Hp → XK → Prop := fun σ H Q => ta σ H fun vs H1 => ∃ v, vs = [v] ∧ ok v ∧ ∀ d, H1 d = none → Q (.ref C) (some d) (upd H1 d (.xd [(par, v)]))
theorem md_of {pins : List (Addr × Obj)} {σ : L2.St} {H : Hp} {s : Shared} (I : Inv X pins σ H s) : DX.Md X.K X.mg s.heap := by
  obtain ⟨mb, h1, h2⟩ := I.mod.blt
  exact ⟨I.kIn, I.mod.glob.keeps I.bk, mb, h1.keeps I.bk, h2⟩
theorem knone {K : PySem.W.Frag} {h : Heap} (X : K.In h) {a : Addr} (hl : h.objs.size ≤ a) : K.lookup a = none := by
  cases e : K.lookup a with
  | none => rfl
  | some o => exact absurd (Nat.lt_of_lt_of_le (Heap.lt_size (X _ _ e)) hl) (Nat.lt_irrefl _)
theorem md_keeps {K : PySem.W.Frag} {mg : Str → Option Value} {h h' : Heap} (M : DX.Md K mg h) (k : ∀ b o, h.get? b = some o → h'.get? b = some o) : DX.Md K mg h' := by
  obtain ⟨mb, h1, h2⟩ := M.blt
  exact ⟨M.kin.keeps k, M.glob.keeps k, mb, h1.keeps k, h2⟩
theorem md_ne {K : PySem.W.Frag} {mg : Str → Option Value} {h : Heap} (M : DX.Md K mg h) {a : Addr} (hl : h.objs.size ≤ a) : a ≠ mainGlobals ∧ a ≠ builtinsNs := by
  obtain ⟨mb, h1, h2⟩ := M.blt
  exact ⟨fun z => absurd (Nat.lt_of_lt_of_le M.glob.lt (by rw [← z]; exact hl)) (Nat.lt_irrefl _), fun z => absurd (Nat.lt_of_lt_of_le h1.lt (by rw [← z]; exact hl)) (Nat.lt_irrefl _)⟩
theorem pmk_2 {a : Expr} {ta : TA} {p pos : Pos} {k : Nat} (T : DX.X2 X.prog X.w X.K X.mg C par ok) (gC : X.mg x = some (.ref C)) (hr : Room (k + 1) X.A) (ha : PA X [a] ta) (hg : Gl X x := by rfl) (hdb : (x == ("__debug__" : Str)) = false := by decide)
    (he : starEach (a :: []) X.env = (false, eval a X.env) :: starEach [] X.env := by rfl) (hpl : (backTo pos (starEach [] X.env)).any (·.1) = false := by rfl) :
    PMk X (.Call (.Name x p) [a] [] pos) (tMk2 C par ok ta) := by
  intro pins s σ H Q I h
  obtain ⟨nm, q, N0, bs, bm, sn, sub, ab, col, dd, k0, k1, k2, k3, k5, hC, hbm⟩ := T.cl.cls
  refine wpAny_Call_Name_kw (ld_glob I hg gC ?_ hdb)
  refine PySem.W.callWith_K (h₀ := X.base) I.ok.mod.kin T.cl.kC (thn (ha.run pos pins s σ H _ I h) fun us s1 hh => ?_) he hpl
  obtain ⟨vs, H1, I1, r1, v, ev, hv, q1⟩ := hh
  subst ev
  refine ⟨I1.kIn, ?_⟩
  cases r1 with
  | cons rv rn =>
    rename_i u us'
    cases rn
    show wpAny _ _ (call (.ref C) [u]) _ _ _
    have hlim := I1.nolimit
    have M1 := md_of I1
    obtain ⟨hp, g, dr, tk, os⟩ := s1
    have kk : ∀ b o, hp.get? b = some o → ((hp.push (PySem.W.kdv_tup [u])).push (PySem.HandSPX.excO C hp.objs.size)).get? b = some o := fun b o e => Heap.get?_push_of_some _ (Heap.get?_push_of_some _ e)
    have hget : ((hp.push (PySem.W.kdv_tup [u])).push (PySem.HandSPX.excO C hp.objs.size)).get? (hp.objs.size + 1) = some (PySem.HandSPX.excO C hp.objs.size) := by heap_get
    obtain ⟨n1, n2⟩ := md_ne M1 (a := hp.objs.size + 1) (Nat.le_succ _)
    refine wpAny_call (PySem.HandSPX.call_own F.excBase_ValueError (fun Y => PySem.HandSPX.refsVE_contains Y bm hbm) (I1.kIn _ _ hC) (PySem.W.looks_findIn I1.kIn T.cl.iC) (fun self => PySem.W.bind_fn I1.kIn self T.cl.tC) (by rw [sizeLine_eq]; exact (by decide : 1 ≤ 16777216))
      (T.run _ _ ⟨(hp.push (PySem.W.kdv_tup [u])).push (PySem.HandSPX.excO C hp.objs.size), g, dr, tk, os⟩ (hp.objs.size + 1) hp.objs.size v u (md_keeps M1 kk) hget (knone I1.kIn (Nat.le_succ _)) n1 n2 (hlim.keeps kk) (by have := hr.dp; show X.A.depth + 1 < recursionLimit; omega) rv hv fun h' tk' d t1 M => ?_))
    refine ⟨rfl, ?_⟩
    show MkP X pins σ Q (.ref (hp.objs.size + 1)) ⟨h', g, dr, tk', os⟩
    generalize hee : hp.objs.size + 1 = e at M hget n1 n2
    have enew : hp.objs.size ≤ e := by rw [← hee]; exact Nat.le_succ _
    have dbig : hp.objs.size ≤ d := by
      have := M.dbig
      refine Nat.le_trans ?_ this
      show hp.objs.size ≤ ((hp.push (PySem.W.kdv_tup [u])).push (PySem.HandSPX.excO C hp.objs.size)).objs.size
      rw [Heap.size_push, Heap.size_push]
      omega
    have old : ∀ b o, hp.get? b = some o → h'.get? b = some o := fun b o q => M.keep b o (Nat.ne_of_lt (Nat.lt_of_lt_of_le (Heap.lt_size q) enew)) (kk b o q)
    have hns := M.ns
    obtain ⟨G', g1, g2⟩ := restrict h' fun b => decide (b ≠ e)
    have gk : ∀ b, b ≠ e → G'.get? b = h'.get? b := fun b hb => g1 b (decide_eq_true hb)
    have ge : G'.get? e = none := g2 e (by simp)
    have oldG : ∀ b o, hp.get? b = some o → G'.get? b = some o := fun b o q => (gk b (Nat.ne_of_lt (Nat.lt_of_lt_of_le (Heap.lt_size q) enew))).trans (old b o q)
    have ob : ObjOk X.prog X.w (upd H1 d (.xd [(par, v)])) G' d (.xd [(par, v)]) := ⟨_, hns.at (fun o q => (gk d M.dne).trans q), fun f => relO_one rv f⟩
    have J : Inv X pins σ (upd H1 d (.xd [(par, v)])) ⟨G', g, dr, tk', os⟩ := I1.laid (t' := tk') oldG dbig ob
    refine ⟨e, _, _, ⟨G', g, dr, tk', os⟩, _, .ref C, some d, rfl, J, fun b o q => ?_, ge, M.obj, ⟨rfl, rfl⟩, rfl, rfl, ?_, rfl, I1.bare, raises_own T.cl.exC T.cl.tyC, q1 d (I1.hok.fresh dbig)⟩
    · by_cases hb : b = e
      · have q' : G'.get? b = some o := q
        rw [hb, ge] at q'; cases q'
      · exact (gk b hb).symm.trans q
    · rw [upd_ne (Ne.symm M.dne)]
      exact I1.hok.fresh enew
end
end DL
set_option maxRecDepth 100000
set_option maxHeartbeats 2000000
set_option autoImplicit false
namespace DL
open PySem L2
/-! ### raise -/
def vRaise2 (c : Nat) (par : Str) (okd : D → Bool) (ev : DEnv → Rs D) (de : DEnv) : Ot := (ev de).out fun d de1 => if okd d = true then .ex c [(par, d)] de1 else .bad
def isStr : D → Bool
  | .str s => decide (s.length ≤ 1000000)
  | _ => false
def anyD : D → Bool := fun _ => true
def okStr : V → Prop := fun v => ∃ s : Str, v = .str s ∧ s.length ≤ 1000000
def okAny : V → Prop := fun _ => True
theorem ok_str {K : PySem.W.Frag} {kap : Kp} (F : Hp) (v : V) (d : D) (r : Rep K kap F v d) (h : isStr d = true) : okStr v := by
  cases r with
  | str s => exact ⟨s, rfl, of_decide_eq_true h⟩
  | _ => cases h
theorem ok_any {K : PySem.W.Frag} {kap : Kp} (F : Hp) (v : V) (d : D) (r : Rep K kap F v d) (h : anyD d = true) : okAny v := trivial
section
variable {kap : Kp} {xi : Xi} {X : Cx} {W : WX} {e : Expr} {t : WX → TE} {ev : DEnv → Rs D} {pos p pos2 : Pos} {k : Nat} {x par : Str} {ok : V → Prop} {okd : D → Bool} {C : Addr}
theorem jRaise2 (c : Nat) (hkc : kap c = C) (T : DX.X2 X.prog X.w X.K X.mg C par ok) (hok : ∀ F v d, Rep X.K kap F v d → okd d = true → ok v) (gC : X.mg x = some (.ref C)) (hr : RoomG (k + 1) X.A) (tk : Takes X W) (h : JE kap xi X W e t ev) (hc : X.calm = true := by rfl) (hg : Gl X x := by rfl) (hdb : (x == ("__debug__" : Str)) = false := by decide)
    (he : starEach (e :: []) X.env = (false, eval e X.env) :: starEach [] X.env := by rfl) (hpl : (backTo pos (starEach [] X.env)).any (·.1) = false := by rfl) :
    JS kap xi X W (.Raise (some (.Call (.Name x p) [e] [] pos)) none pos2) (fun W _ σ H => tMk2 C par ok (tCons (t W) tNil) σ H fun cls d H' => W cls d σ H') (vRaise2 c par okd ev) := ⟨ps_raise hc tk (pmk_2 T gC hr.r (pa_cons h.p pa_nil he) hg hdb he hpl), by
  subst hkc
  intro W F H sg de O Dn R hp
  refine h.s.out R hp fun v d F1 H1 de1 O1 R1 g1 r _ hp => ?_
  split at hp
  · rename_i ho
    refine ⟨v, rfl, hok F1 v d r ho, fun dd hd => ?_⟩
    obtain ⟨n, s2⟩ := New.one (o := .xd [(par, v)]) R1.sub hd
    exact hp (upd F1 dd (.xd [(par, v)])) (upd H1 dd (.xd [(par, v)])) sg O1 (some dd) (R1.new n s2) n.go ⟨_, upd_same, rfl, .cons (r.mono n.f) .nil⟩
  · exact hp.elim⟩
end
/-! ### try: .. except C as e: .. -/
def noEx : Sl → Bool
  | .ex _ _ => false
  | .cn _ => false
  | .fl _ _ => false
  | .ll _ _ => false
  | _ => true
def calmD (de : DEnv) : Bool := de.all noEx
/-- the suite's end: its name goes -/
def offEx (i : Nat) : Ot → Ot
  | .nx de => if calmD (de.set i .no) = true then .nx (de.set i .no) else .bad
  | .brk de => if calmD (de.set i .no) = true then .brk (de.set i .no) else .bad
  | .ct de => if calmD (de.set i .no) = true then .ct (de.set i .no) else .bad
  | .ret d de => if calmD (de.set i .no) = true then .ret d (de.set i .no) else .bad
  | .retF d de => if calmD (de.set i .no) = true then .retF d (de.set i .no) else .bad
  | _ => .bad
def vTryAs (i : Nat) (mt : Nat → Option Bool) (eb es : DEnv → Ot) (de : DEnv) : Ot := match eb de with
  | .ex c fs de1 => (match mt c with
    | some true => if calmD (de1.set i .no) = true then offEx i (es (de1.set i (.ex c fs))) else .bad
    | some false => .ex c fs de1
    | none => .bad)
  | o => o
def noOut : Ot → Ot
  | .ex _ _ _ => .bad
  | o => o
def vTryOnly (mt : Nat → Option Bool) (eb es : DEnv → Ot) (de : DEnv) : Ot := match eb de with
  | .ex c fs de1 => (match mt c with
    | some true => noOut (es de1)
    | some false => .ex c fs de1
    | none => .bad)
  | o => o
def vXf (i : Nat) (c : Nat) (f : Str) (de : DEnv) : Rs D := match de[i]? with
  | some (.ex c' fs) => if c' = c then ofO (fs.lookup f) de else .bad
  | _ => .bad
section
variable {K : PySem.W.Frag} {kap : Kp} {xi xj : Xi} {F H : Hp} {sg : L2.St} {de : DEnv} {O : Own?}
theorem calm_no {de : DEnv} (h : calmD de = true) (i c : Nat) (fs : List (Str × D)) : de[i]? ≠ some (.ex c fs) := fun e => by
  have := List.all_eq_true.mp h _ (List.mem_of_getElem? e)
  cases this
theorem calm_cn {de : DEnv} (h : calmD de = true) (i : Nat) (d : D) : de[i]? ≠ some (.cn d) := fun e => by
  have := List.all_eq_true.mp h _ (List.mem_of_getElem? e)
  cases this
theorem calm_gh {de : DEnv} (h : calmD de = true) (i : Nat) (s : Sl) (d : D) (e : de[i]? = some s) (hd : s.ghd = some d) : False := by
  have := List.all_eq_true.mp h _ (List.mem_of_getElem? e)
  cases s with
  | fl d f => cases this
  | ll d g => cases this
  | _ => cases hd
theorem RS.xch (R : RS K kap xi F H sg de O) (h : calmD de = true) : RS K kap xj F H sg de O :=
  ⟨R.len, R.va, R.ow, fun i c fs e => absurd e (calm_no h i c fs), R.onl, R.inj, R.sub, R.nt, R.tab, fun i d e => absurd e (calm_cn h i d), fun i s d e e2 => (calm_gh h i s d e e2).elim⟩
theorem RS.off (R : RS K kap xi F H sg de O) (i : Nat) : RS K kap xi F H (sg.set i none) (de.set i .no) (putO O de.length i none) :=
  R.put i none .no none (fun _ e => by cases e) (fun _ e => by cases e) (fun _ _ e => by cases e) fun _ => rfl
theorem go_off (i : Nat) : Go F H de O F H (de.set i .no) (putO O de.length i none) := Go.put i .no none (fun _ e => by cases e) fun _ e => by cases e
theorem go_ex (i c : Nat) (fs : List (Str × D)) : Go F H de O F H (de.set i (.ex c fs)) (putO O de.length i none) := Go.put i _ none (fun _ e => by cases e) fun _ e => by cases e
theorem RS.onEx (R : RS K kap xi F H sg de O) (i c : Nat) {fs : List (Str × D)} {a : Addr} {d : Option Addr} (h : calmD (de.set i .no) = true) (x : XR K kap F d fs) :
    RS K kap (some (.inl (a, Value.ref (kap c), d))) F H (sg.set i (some (.ref a))) (de.set i (.ex c fs)) (putO O de.length i none) := by
  have R1 : RS K kap (some (.inl (a, Value.ref (kap c), d))) F H (sg.set i none) (de.set i .no) (putO O de.length i none) := (R.off i).xch h
  have R2 := R1.put i (some (.ref a)) (.ex c fs) none (fun _ e => by cases e) (fun _ e => by cases e) (fun c' fs' e => by cases e; exact ⟨a, d, rfl, rfl, x⟩) fun _ => rfl
  rw [List.set_set, List.set_set, List.length_set] at R2
  have eO : putO (putO O de.length i none) de.length i none = putO O de.length i none := by
    funext j
    unfold putO
    split <;> rfl
  rw [eO] at R2
  exact R2
end
section
variable {kap : Kp} {xi : Xi} {X : Cx} {W : WX} {body suite : List Stmt} {b₀ : Stmt} {tb : WX → TS} {ts : Addr → Value → Option Addr → WX → TS} {eb es : DEnv → Ot} {pos pos' np : Pos} {x n : Str} {cv : Value} {mt : Nat → Option Bool}
abbrev W0 : WX := fun _ _ _ _ => False
/-- behind the suite -/
theorem off_ends {K : PySem.W.Frag} {F H : Hp} {de de1 : DEnv} {O O1 : Own?} {W : WX} {D : Ends} {i : Nat} {xj : Xi} {F0 H0 : Hp} {o : Ot} (h : PS1 K kap xi F H de O W D (offEx i o)) :
    PS1 K kap xj F H de O W0 { nx := fun σ' H' => D.nx (σ'.set i none) H', rt := D.rt, bk := fun σ' H' => D.bk (σ'.set i none) H', ct := fun σ' H' => D.ct (σ'.set i none) H' } o := by
  cases o with
  | nx de' =>
    unfold offEx at h
    dsimp only at h
    split at h
    · rename_i hc
      exact fun F' H' sg' O' R g => h F' H' _ _ ((R.off i).xch hc) (g.trans (go_off i))
    · exact h.elim
  | brk de' =>
    unfold offEx at h
    dsimp only at h
    split at h
    · rename_i hc
      exact fun F' H' sg' O' R g => h F' H' _ _ ((R.off i).xch hc) (g.trans (go_off i))
    · exact h.elim
  | ct de' =>
    unfold offEx at h
    dsimp only at h
    split at h
    · rename_i hc
      exact fun F' H' sg' O' R g => h F' H' _ _ ((R.off i).xch hc) (g.trans (go_off i))
    · exact h.elim
  | ret d de' =>
    unfold offEx at h
    dsimp only at h
    split at h
    · rename_i hc
      exact fun v F' H' sg' O' R g r => h v F' H' _ _ ((R.off i).xch hc) (g.trans (go_off i)) r
    · exact h.elim
  | retF d de' =>
    unfold offEx at h
    dsimp only at h
    split at h
    · rename_i hc
      intro v F' H' sg' O' R g ⟨p, ev, h1, h2, h3⟩ org
      refine h v F' H' _ _ ((R.off i).xch hc) (g.trans (go_off i)) ⟨p, ev, h1, h2, fun j z => ?_⟩ org
      unfold putO at z
      split at z
      · cases z
      · exact h3 j z
    · exact h.elim
  | ex c fs de' => exact h.elim
  | bad => exact h.elim
theorem noOut_ends {K : PySem.W.Frag} {F H : Hp} {de : DEnv} {O : Own?} {W W' : WX} {D : Ends} {o : Ot} (h : PS1 K kap xi F H de O W D (noOut o)) : PS1 K kap xi F H de O W' D o := by
  cases o with
  | ex c fs de' => exact h.elim
  | _ => exact h
end
end DL
set_option maxRecDepth 100000
set_option maxHeartbeats 2000000
set_option autoImplicit false
namespace DL
open PySem L2
/-! ### x.f = e, x an owned object -/
def vSetFld (i : Nat) (cl : List Nat) (f : Str) (ev : DEnv → Rs D) (de : DEnv) : Ot :=
  (ev de).out fun d de1 => match slotOw i de1 with
    | some (s, .obj c fs) => if cl.contains c = true ∧ fs.length < 1000 then .nx (de1.set i (s.same (.obj c (putD f d fs)))) else .bad
    | _ => .bad
def fAugI (g : Int → Int → Int) (a b : D) : Option D := match a, b with
  | .int i, .int j => some (.int (g i j))
  | _, _ => none
/-- x op= e, whole numbers -/
def vAug (i : Nat) (g : Int → Int → Int) (ev : DEnv → Rs D) (de : DEnv) : Ot :=
  match de[i]? with
  | some (.va a) => (ev de).out fun b de1 => (match fAugI g a b with
    | some z => .nx (de1.set i (.va z))
    | none => .bad)
  | _ => .bad
section
variable {kap : Kp} {xi : Xi} {X : Cx} {W : WX} {e : Expr} {t : WX → TE} {ev : DEnv → Rs D} {pos pos' np : Pos} {x f : Str}
theorem jSetFld (i : Nat) (cl : List Nat) (hcl : ∀ c ∈ cl, Cls X.K (kap c) ∧ NoAttr X.K (kap c) f) (h : JE kap xi X W e t ev) (hN : X.N[i]? = some x := by rfl) (hv : Vis X.env.scope x := by first | exact Or.inl rfl | exact Or.inr (Or.inl rfl) | exact Or.inr (Or.inr rfl)) (hd : (x == ("__debug__" : Str)) = false := by decide)
    (hcd : (x == ("__classdict__" : Str)) = false := by decide) (hs : swapsWith e (some (.Attribute (.Name x np) f pos')) pos.line X.env = pure false := by rfl) :
    JS kap xi X W (.Assign [.Attribute (.Name x np) f pos'] e pos) (fun W => sFld X.K (tVar i) (t W) f) (vSetFld i cl f ev) := ⟨ps_fld (pe_var hN hv hd hcd) h.p hs, by
  intro W F H sg de O Dn R hp
  refine h.s.out R hp fun v d F1 H1 de1 O1 R1 g1 r _ hp => ?_
  split at hp
  · rename_i s c fs eo
    split at hp
    · rename_i hh
      obtain ⟨e1, e2, p, h1, h2, h3, dx, vs, h4, h5, h6⟩ := R1.owl eo
      obtain ⟨k1, k2⟩ := hcl c (List.contains_iff_mem.mp hh.1)
      have hl : vs.length < 1000 := by
        have := congrArg List.length h5
        rw [List.length_map, List.length_map] at this
        rw [this]
        exact hh.2
      refine ⟨_, h2, p, _, dx, vs, rfl, h4, k1, k2, hl, ?_⟩
      obtain ⟨R3, g3⟩ := R1.mut (o := .ins (kap c) dx (putF f v vs)) (d' := .obj c (putD f d fs)) e1 e2 h1 ⟨dx, _, upd_same, put_names f v d h5, put_reps r h5 h6⟩
      exact hp F1 _ sg O1 R3 g3
    · exact hp.elim
  · exact hp.elim⟩
theorem snd_aug {K : PySem.W.Frag} (i : Nat) {g : Int → Int → Int} (h : Snd K kap xi (RlE K kap) t ev) : SndS K kap xi (fun W => tAug i (t W) (ipI g)) (vAug i g ev) := by
  intro W F H sg de O Dn R hp
  unfold vAug at hp
  split at hp
  · rename_i a ea
    obtain ⟨x, h1, h2⟩ := R.va i a ea
    refine ⟨x, h1, ?_⟩
    refine h.out R hp fun v b F1 H1 de1 O1 R1 g1 r _ hp => ?_
    split at hp
    · rename_i z ez
      unfold fAugI at ez
      split at ez
      · cases ez
        cases h2
        cases r
        refine ⟨_, _, rfl, rfl, ?_⟩
        obtain ⟨R2, g2⟩ := R1.setv i (v := .int _) (d := .int _) (.int _)
        exact hp F1 H1 _ _ R2 g2
      · cases ez
    · exact hp.elim
  · exact hp.elim
theorem jAugAdd (i : Nat) (hN : X.N.Nodup) (h : JE kap xi X W e t ev) (hi : X.N[i]? = some x := by rfl) (hx : Loc X.env.scope x := by first | exact Or.inl rfl | exact Or.inr rfl)
    (hf : X.fn x = true ∨ X.env.scope.names.lookup x = some .local := by first | exact .inl rfl | exact .inr rfl | assumption) : JS kap xi X W (.AugAssign (.Name x pos') .Add e pos) (fun W => tAug i (t W) (ipI fun i j => i + j)) (vAug i (fun i j => i + j) ev) := ⟨ps_aug hN hi hx h.p ip_add hf, snd_aug i h.s⟩
end
end DL
set_option maxRecDepth 100000
set_option maxHeartbeats 2000000
set_option autoImplicit false
namespace DL
open PySem L2
/-! ### a slice of either kind -/
def fSlA : D → Option Int → Option Int → Option D
  | .tup xs, lo, hi => some (.tup (cutD xs lo hi))
  | .lst xs, lo, hi => some (.lst (cutD xs lo hi))
  | .scr xs, lo, hi => some (.lst (cutD xs lo hi))
  | _, _, _ => none
section
variable {kap : Kp} {xi : Xi} {X : Cx} {W : WX} {e : Expr} {t : WX → TE} {o : Op} {pos p2 : Pos} {lo hi : Option Expr} {tl th : WX → TO} {e1 e2 : DEnv → Rs (Option Int)}
theorem jSlA (h : JO kap xi X W e t o) (hl : JP kap xi X W lo tl e1) (hu : JP kap xi X W hi th e2) : JE kap xi X W (.Subscript e (.Slice lo hi none p2) pos) (fun W => tSl (fun x lo hi H Q => rSlA X.K x lo hi H Q ∨ rSlL X.K x lo hi H Q) (t W) (tl W) (th W)) (vSl fSlA o e1 e2) := ⟨pe_slice (sl_tupA.or sl_list) h.p hl.p hu.p, by
  intro W F H sg de O Q R hp
  refine h.s.bind R hp fun x fa F1 H1 de1 O1 R1 g1 ra _ hp => ?_
  refine hl.s.bind R1 hp fun l l' F2 H2 de2 O2 R2 g2 rl _ hp => ?_
  cases (show l = l' from rl)
  refine hu.s.bind R2 hp fun u u' F3 H3 de3 O3 R3 g3 ru _ hp => ?_
  cases (show u = u' from ru)
  obtain ⟨z, e, hp⟩ := ofO_some hp
  obtain ⟨d, e1, e⟩ := bind_some e
  have rd := ra xi F3 H3 de3 O3 R3 (g2.ex.trans g3.ex) d e1
  have fin : ∀ {vs : List V} {ds : List D}, Reps X.K kap F3 vs ds → z = .lst (cutD ds l u) → ∀ q, H3 q = none → Q (.ref q) (upd H3 q (.lst (cutV vs l u))) := fun {vs ds} r1 ez q hq => by
    obtain ⟨n, s2⟩ := New.one (o := .lst (cutV vs l u)) R3.sub hq
    subst ez
    exact hp.done R3 n s2 (.lst upd_same ((r1.cut l u).mono n.f))
  unfold fSlA at e
  split at e
  · cases e
    obtain ⟨p, vs, rfl, h1, r1⟩ := rd.tup
    refine .inl ⟨p, vs, rfl, sqT_mono R3.sub h1, fun hw => ?_, fun hw q hq => ?_⟩
    · rw [r1.length] at hw
      rw [cut_whole _ _ _ hw] at hp
      exact hp.done R3 New.refl R3.sub (.tup h1 r1)
    · obtain ⟨n, s2⟩ := New.one (o := .tup (cutV vs l u)) R3.sub hq
      exact hp.done R3 n s2 (.tup (SqT.of upd_same) ((r1.cut l u).mono n.f))
  · cases e
    obtain ⟨p, vs, rfl, h1, r1⟩ := rd.lst R3.sub
    exact .inr ⟨p, vs, rfl, SqL.of h1, fin r1 rfl⟩
  · cases e
    obtain ⟨p, vs, rfl, h1, r1⟩ := rd.scr
    exact .inr ⟨p, vs, rfl, sqL_mono R3.sub h1, fin r1 rfl⟩
  · cases e⟩
end
/-! ### defs with defaults -/
open PySem.Spec PyProof.Rows in
theorem FunD.dl {P : Program} {w : World} {K : PySem.W.Frag} {mg : Str → Option Value} {base : Heap} {kap : Kp} {x qual : Str} {st : Stmt} {f : Addr} {fd : FuncData} {N ps : List Str} {k : Nat} {n nl : Nat} {mu : Option Nat} {e : DEnv → Ot} {dvs : List V} {kws : List (Str × V)}
    (F : FunD K x qual (defArgs st) (defBody st) (defScope st) dvs kws f fd) (S : FnScope N ps (defScope st)) (hn : ps.length = n) (hN : N.length = n + nl)
    (hbody : ∀ (cdv : Value) (A : Around) (outer : List Env) (s : Shared) (H : Hp) (E : XK), RoomG k (A.deeper (envC qual (defScope st) s.heap.objs.size f cdv)) →
      Takes (cxOf (L2.CX P w) P w K mg base N qual (defScope st) f cdv A outer s H E) (fun cls d _ H => E cls d H) →
      PassesOwn (model P w) (cxOf (L2.CX P w) P w K mg base N qual (defScope st) f cdv A outer s H E).A (cxOf (L2.CX P w) P w K mg base N qual (defScope st) f cdv A outer s H E).env (cxOf (L2.CX P w) P w K mg base N qual (defScope st) f cdv A outer s H E).xe →
      ∃ t, JSs kap none (cxOf (L2.CX P w) P w K mg base N qual (defScope st) f cdv A outer s H E) (fun cls d _ H => E cls d H) (defBody st) t e) :
    FnG P w K mg base (L2.CX P w) (k + 1) f fd ps (spD K kap n mu (run mu nl e)) := by
  obtain ⟨oc, od, dV, kV, doc, pm, an, cdv, ct, osl, rfl, lk, hcd, _, _⟩ := F.ex
  refine fnG_of lk hcd S (fun vs H Q E h => ?_) fun A outer s H vs Q E hr h => ?_
  · obtain ⟨F, ds, P, hd, _, A, _⟩ := h
    rw [A.len, hd, hn]
  · obtain ⟨t, J⟩ := hbody cdv A outer s H E hr (takes_of rfl rfl rfl rfl) (passes_of rfl)
    exact ⟨_, J.p, run_snd hN J.s h⟩
/-- the parameters picked from what is given, the defaults, the keywords' values -/
def gpick {α : Type} (ix : List (Nat × Nat)) (us mv ws : List α) : List α := ix.filterMap fun p => (([us, mv, ws].getD p.1 [])[p.2]?)
theorem vals_get {vs : List V} {us : List Value} (h : Vals vs us) (i : Nat) : (vs[i]? = none ∧ us[i]? = none) ∨ ∃ v u, vs[i]? = some v ∧ us[i]? = some u ∧ RelV v u := by
  induction h generalizing i with
  | nil => exact .inl ⟨rfl, rfl⟩
  | cons h r ih =>
    cases i with
    | zero => exact .inr ⟨_, _, rfl, rfl, h⟩
    | succ i => simpa using ih i
theorem gpick_rel (ix : List (Nat × Nat)) {vs mz zs : List V} {us mv ws : List Value} (h1 : Vals vs us) (h2 : Vals mz mv) (h3 : Vals zs ws) : Vals (gpick ix vs mz zs) (gpick ix us mv ws) := by
  induction ix with
  | nil => exact .nil
  | cons p r ih =>
    obtain ⟨a, i⟩ := p
    have key : ∀ {xs : List V} {ys : List Value}, Vals xs ys → [vs, mz, zs].getD a [] = xs → [us, mv, ws].getD a [] = ys → Vals (gpick ((a, i) :: r) vs mz zs) (gpick ((a, i) :: r) us mv ws) := fun {xs ys} h e1 e2 => by
      show Vals (((a, i) :: r).filterMap fun p => (([vs, mz, zs].getD p.1 [])[p.2]?)) (((a, i) :: r).filterMap fun p => (([us, mv, ws].getD p.1 [])[p.2]?))
      simp only [List.filterMap_cons]
      rw [e1, e2]
      rcases vals_get h i with ⟨g1, g2⟩ | ⟨v, u, g1, g2, g3⟩
      · rw [g1, g2]; exact ih
      · rw [g1, g2]; exact .cons g3 ih
    match a with
    | 0 => exact key h1 rfl rfl
    | 1 => exact key h2 rfl rfl
    | 2 => exact key h3 rfl rfl
    | a + 3 => exact key (xs := []) (ys := []) .nil rfl rfl
/-- the addresses of the classes -/
def kapL (l : List Addr) : Kp := ⟨fun n => l.getD n 0, fun _ => none, []⟩
/-- a def, by its name -/
structure GF (P : Program) (w : World) (K : PySem.W.Frag) (mg : Str → Option Value) (base : Heap) (kap : Kp) (x : Str) (k n : Nat) (mu : Option Nat) (m : List D → Fo) (dcs : List D) where
  g : DG P w K mg base kap k n mu m dcs
  hm : mg x = some (.ref g.f)
/-- a call that gives every parameter -/
def DG.all {P : Program} {w : World} {K : PySem.W.Frag} {mg : Str → Option Value} {base : Heap} {kap : Kp} {k n : Nat} {mu : Option Nat} {m : List D → Fo} {f : Addr} {fd : FuncData} {ps : List Str}
    (ok : FnG P w K mg base (L2.CX P w) k f fd ps (spD K kap n mu m)) (kp : PySem.W.keepIn K (.ref f) = true) (bi : Binds K fd ps []) : DG P w K mg base kap k n mu m [] :=
  ⟨f, fd, ps, [], [], ok, kp, bi, .nil, fun _ => .nil⟩
structure GK (P : Program) (w : World) (K : PySem.W.Frag) (mg : Str → Option Value) (base : Heap) (kap : Kp) (x : Str) (c k n j : Nat) (ks : List Str) (m : List D → Fo) (ar : List D → List D → List D) where
  C : Addr
  hk : kap c = C
  g : DK P w K mg base kap k n j ks m ar
  im : Mk K C g.f
  hm : mg x = some (.ref C)
/-- an own exception class -/
structure GX2 (P : Program) (w : World) (K : PySem.W.Frag) (mg : Str → Option Value) (kap : Kp) (x : Str) (c : Nat) (par : Str) (ok : V → Prop) where
  C : Addr
  hk : kap c = C
  g : DX.X2 P w K mg C par ok
  hm : mg x = some (.ref C)
theorem cx_end {P : Program} {w : World} (H : Hp) (s : Shared) (e : Value) (s' : Shared) (h : L2.CX P w [] H s (fun _ _ _ => False) e s') : False := by
  obtain ⟨_, _, _, _, _, _, _, _, _, _, _, _, z⟩ := h
  exact z.elim
end DL
set_option maxRecDepth 100000
set_option maxHeartbeats 2000000
set_option autoImplicit false
/-! the shapes of the own exceptions' __init__ -/
namespace DX
open PySem PySem.Spec PySem.W PySem.Calls PyProof.Rows PySem.HandSPX
section
variable {P : Program} {w : World} {K : Frag} {mg : Str → Option Value} {C fI cda cc : Addr} {fnm qual par : Str} {ar : Arguments} {sc : Scope}
/-- super().__init__(pre + par); self.par = par -/
def x2_cat {a0 a1 a2 a3 a4 a5 a6 a7 b0 b1 b2 b3 : Pos} {j : Nat} {pre : Str} (T : XT P K C fI cda cc fnm qual ar [.Expr (.Call (.Attribute (.Call (.Name "super" a0) [] [] a1) "__init__" a2) [.BinOp (.Constant (.str pre) j a5) .Add (.Name par a6) a7] [] a3) a4, .Assign [.Attribute (.Name "self" b0) par b1] (.Name par b2) b3] sc par)
    (hpre : pre.length ≤ 1000) (hself : sc.names.lookup ("self" : Str) = some .local) (hpar : sc.names.lookup par = some .local) (hks : sc.names.lookup ("super" : Str) = some .globalImplicit) (hkc : sc.names.lookup ("__class__" : Str) = some .free) (hk : sc.kind = .function)
    (hco : sc.isCoroutine = false) (hgen : sc.isGenerator = false) (hcell : ∀ y ∈ sc.names, y.2 ≠ .cell) (hps : par ≠ "self") (hpd : (par == ("__debug__" : Str)) = false)
    {ar0 : Arg} (hp : (ar.posonlyargs ++ ar.args).head? = some ar0) (har : ar0.arg = "self")
    (hbind : ∀ (s : Shared) (x : Addr) (v : Value) (bo : List Stmt) (doc pm : Value) (an : Option Addr) (ct : Value), BindsTo s (ksFn fnm qual ar bo sc .none .none doc pm an (.ref cda) ct cc) ⟨[.ref x, v], []⟩ (binds2 par x v))
    (hst : ∀ L, starEach [.BinOp (.Constant (.str pre) j a5) .Add (.Name par a6) a7] (ksEnv qual sc L fI (.ref cda) cc) = (false, eval (.BinOp (.Constant (.str pre) j a5) .Add (.Name par a6) a7) (ksEnv qual sc L fI (.ref cda) cc)) :: starEach [] (ksEnv qual sc L fI (.ref cda) cc))
    (hin : ∀ L, interactive (ksEnv qual sc L fI (.ref cda) cc) = false)
    (hsw : ∀ L, swapsWith (.Name par b2) (some (.Attribute (.Name "self" b0) par b1)) b3.line (ksEnv qual sc L fI (.ref cda) cc) = pure false)
    {pl : Sem Bool} (he : ∀ L, eval (.Call (.Attribute (.Call (.Name "super" a0) [] [] a1) "__init__" a2) [.BinOp (.Constant (.str pre) j a5) .Add (.Name par a6) a7] [] a3) (ksEnv qual sc L fI (.ref cda) cc) = (do
      let ov ← attributeBase (.Call (.Name "super" a0) [] [] a1) "__init__" (ksEnv qual sc L fI (.ref cda) cc) (eval (.Call (.Name "super" a0) [] [] a1) (ksEnv qual sc L fI (.ref cda) cc))
      standAt a2.atName
      let (f, first) ← holding [ov] (getMethod ov "__init__" pl)
      callWith a3 f first (backTo a3 (starEach [.BinOp (.Constant (.str pre) j a5) .Add (.Name par a6) a7] (ksEnv qual sc L fI (.ref cda) cc))) [])) : X2 P w K mg C par DL.okStr where
  fI := fI
  cl := T.cl
  run := fun A R s x t0 v u M hx hnx hng hnb hlim hroom rv ok hq => by
    obtain ⟨y, rfl, hy⟩ := ok
    obtain ⟨t, rfl⟩ := (show ∃ t, u = Value.str y t from rv)
    refine init_two T M hx hnx hng hnb hlim hroom hself hpar hks hkc hk hco hgen hcell hps hpd hp har (fun s => hbind s x _) (fun L A E s' Q' hn hq' => ?_) hst hin hsw he hq
    refine wpAny_BinOp (Calls.Constant_str ?_)
    have hmp : mp2 par x (.str y t) par = some (.str y t) := by
      show List.lookup par [(par, Value.str y t), ("self", Value.ref x)] = some (.str y t)
      simp [List.lookup]
    refine ESX.ldL (s := { s' with toks := s'.toks + 1 }) (env := ksEnv qual sc L fI (.ref cda) cc) hn hmp ?_ hk hpar hpd
    exact PySem.SB.add (fun t' k => hq' _ _) (by rw [sizeLine_eq]; omega)
/-- super().__init__(msg); self.par = par -/
def x2_msg {a0 a1 a2 a3 a4 a5 b0 b1 b2 b3 : Pos} {j : Nat} {pre : Str} (T : XT P K C fI cda cc fnm qual ar [.Expr (.Call (.Attribute (.Call (.Name "super" a0) [] [] a1) "__init__" a2) [.Constant (.str pre) j a5] [] a3) a4, .Assign [.Attribute (.Name "self" b0) par b1] (.Name par b2) b3] sc par)
    (hself : sc.names.lookup ("self" : Str) = some .local) (hpar : sc.names.lookup par = some .local) (hks : sc.names.lookup ("super" : Str) = some .globalImplicit) (hkc : sc.names.lookup ("__class__" : Str) = some .free) (hk : sc.kind = .function)
    (hco : sc.isCoroutine = false) (hgen : sc.isGenerator = false) (hcell : ∀ y ∈ sc.names, y.2 ≠ .cell) (hps : par ≠ "self") (hpd : (par == ("__debug__" : Str)) = false)
    {ar0 : Arg} (hp : (ar.posonlyargs ++ ar.args).head? = some ar0) (har : ar0.arg = "self")
    (hbind : ∀ (s : Shared) (x : Addr) (v : Value) (bo : List Stmt) (doc pm : Value) (an : Option Addr) (ct : Value), BindsTo s (ksFn fnm qual ar bo sc .none .none doc pm an (.ref cda) ct cc) ⟨[.ref x, v], []⟩ (binds2 par x v))
    (hst : ∀ L, starEach [.Constant (.str pre) j a5] (ksEnv qual sc L fI (.ref cda) cc) = (false, eval (.Constant (.str pre) j a5) (ksEnv qual sc L fI (.ref cda) cc)) :: starEach [] (ksEnv qual sc L fI (.ref cda) cc))
    (hin : ∀ L, interactive (ksEnv qual sc L fI (.ref cda) cc) = false)
    (hsw : ∀ L, swapsWith (.Name par b2) (some (.Attribute (.Name "self" b0) par b1)) b3.line (ksEnv qual sc L fI (.ref cda) cc) = pure false)
    {pl : Sem Bool} (he : ∀ L, eval (.Call (.Attribute (.Call (.Name "super" a0) [] [] a1) "__init__" a2) [.Constant (.str pre) j a5] [] a3) (ksEnv qual sc L fI (.ref cda) cc) = (do
      let ov ← attributeBase (.Call (.Name "super" a0) [] [] a1) "__init__" (ksEnv qual sc L fI (.ref cda) cc) (eval (.Call (.Name "super" a0) [] [] a1) (ksEnv qual sc L fI (.ref cda) cc))
      standAt a2.atName
      let (f, first) ← holding [ov] (getMethod ov "__init__" pl)
      callWith a3 f first (backTo a3 (starEach [.Constant (.str pre) j a5] (ksEnv qual sc L fI (.ref cda) cc))) [])) : X2 P w K mg C par DL.okAny where
  fI := fI
  cl := T.cl
  run := fun A R s x t0 v u M hx hnx hng hnb hlim hroom rv ok hq =>
    init_two T M hx hnx hng hnb hlim hroom hself hpar hks hkc hk hco hgen hcell hps hpd hp har (fun s => hbind s x _) (fun L A E s' Q' hn hq' => Calls.Constant_str (hq' _ _)) hst hin hsw he hq
end
end DX
namespace DL
open PySem L2
theorem gpick_reps {K : PySem.W.Frag} {kap : Kp} {F : Hp} (ix : List (Nat × Nat)) {vs mz zs : List V} {us mv ws : List D} (h1 : Reps K kap F vs us) (h2 : Reps K kap F mz mv) (h3 : Reps K kap F zs ws) : Reps K kap F (gpick ix vs mz zs) (gpick ix us mv ws) := by
  induction ix with
  | nil => exact .nil
  | cons p r ih =>
    obtain ⟨a, i⟩ := p
    have key : ∀ {xs : List V} {ys : List D}, Reps K kap F xs ys → [vs, mz, zs].getD a [] = xs → [us, mv, ws].getD a [] = ys → Reps K kap F (gpick ((a, i) :: r) vs mz zs) (gpick ((a, i) :: r) us mv ws) := fun {xs ys} h e1 e2 => by
      show Reps K kap F (((a, i) :: r).filterMap fun p => (([vs, mz, zs].getD p.1 [])[p.2]?)) (((a, i) :: r).filterMap fun p => (([us, mv, ws].getD p.1 [])[p.2]?))
      simp only [List.filterMap_cons]
      rw [e1, e2]
      cases e : ys[i]? with
      | none =>
        have hl : ys.length ≤ i := List.getElem?_eq_none_iff.mp e
        have e' : xs[i]? = none := List.getElem?_eq_none_iff.mpr (by rw [h.length]; exact hl)
        rw [e']
        exact ih
      | some d =>
        obtain ⟨v, g1, g2⟩ := h.get e
        rw [g1]
        exact .cons g2 ih
    match a with
    | 0 => exact key h1 rfl rfl
    | 1 => exact key h2 rfl rfl
    | 2 => exact key h3 rfl rfl
    | a + 3 => exact key (xs := []) (ys := []) .nil rfl rfl
theorem none_in {α : Type} {p : α → Prop} : ∀ c ∈ ([] : List α), p c := fun _ h => nomatch h
theorem more_in {α : Type} {p : α → Prop} {a : α} {l : List α} (h : p a) (r : ∀ c ∈ l, p c) : ∀ c ∈ a :: l, p c := fun c hc => by
  rcases List.mem_cons.mp hc with e | e
  · rw [e]; exact h
  · exact r c e
theorem uu {k : Nat} {A : Around} (r : RoomG k A) : A.units + 64 < cLine := by have := r.un; omega
theorem vcons_len {ev : DEnv → Rs D} {er : DEnv → Rs (List D)} {n : Nat} (h : ∀ de ds de', er de = .ok ds de' → ds.length = n) : ∀ de ds de', vCons ev er de = .ok ds de' → ds.length = n + 1 := fun de ds de' e => by
  unfold vCons at e
  cases e1 : ev de with
  | ok d de1 =>
    rw [e1] at e
    have e : ((er de1).bind fun ds de2 => Rs.ok (d :: ds) de2) = .ok ds de' := e
    cases e2 : er de1 with
    | ok ds1 de2 =>
      rw [e2] at e
      cases e
      rw [List.length_cons, h _ _ _ e2]
    | ex c fs de2 => rw [e2] at e; cases e
    | bad => rw [e2] at e; cases e
  | ex c fs de2 => rw [e1] at e; cases e
  | bad => rw [e1] at e; cases e
theorem vnil_len : ∀ de ds de', vNil de = .ok ds de' → ds.length = 0 := fun de ds de' e => by cases e; rfl
open PyProof.Rows
theorem bt_len : bootBuiltins ("len" : Str) = some (.builtin "len") := by decide +kernel
theorem bt_abs : bootBuiltins ("abs" : Str) = some (.builtin "abs") := by decide +kernel
theorem bt_isinstance : bootBuiltins ("isinstance" : Str) = some (.builtin "isinstance") := by decide +kernel
theorem bt_min : bootBuiltins ("min" : Str) = some (.builtin "min") := by decide +kernel
theorem bt_int : bootBuiltins ("int" : Str) = some (.type "int") := by decide +kernel
theorem bt_str : bootBuiltins ("str" : Str) = some (.type "str") := by decide +kernel
theorem bt_bool : bootBuiltins ("bool" : Str) = some (.type "bool") := by decide +kernel
theorem bt_tuple : bootBuiltins ("tuple" : Str) = some (.type "tuple") := by decide +kernel
theorem bt_list : bootBuiltins ("list" : Str) = some (.type "list") := by decide +kernel
theorem bt_dict : bootBuiltins ("dict" : Str) = some (.type "dict") := by decide +kernel
end DL
namespace DL
open PySem L2
section
variable {kap : Kp} {xi : Xi} {X : Cx} {W : WX} {e : Expr} {es : List Expr} {kws : List Keyword} {t : WX → TE} {ta tk : WX → TA} {ev : DEnv → Rs D} {ea : DEnv → Rs (List CA)} {eb ek : DEnv → Rs (List D)} {pos p pos2 : Pos} {k n j : Nat} {x par : Str} {mu : Option Nat} {md : List D → Fo} {dcs : List D} {ks : List Str} {ok : V → Prop} {okd : D → Bool}
theorem gCall (g : GF X.prog X.w X.K X.mg X.base kap x k n mu md dcs) (hr : RoomG k X.A) (tk : Takes X W) (ha : JC kap xi X W (e :: es) ta ea) (hg : Gl X x := by rfl) (hdb : (x == ("__debug__" : Str)) = false := by decide)
    (he : starEach (e :: es) X.env = (false, eval e X.env) :: starEach es X.env := by rfl) (hpl : (backTo pos (starEach es X.env)).any (·.1) = false := by rfl) :
    JE kap xi X W (.Call (.Name x p) (e :: es) [] pos) (fun W => tCallSD (spD X.K kap n mu md) g.g.dvs (WE W) (ta W)) (wCall n mu md dcs ea) := jCall g.g g.hm hr tk ha hg hdb he hpl
theorem gCallF (g : GF X.prog X.w X.K X.mg X.base kap x k n mu md dcs) (hr : RoomG k X.A) (tk : Takes X W) (ha : JC kap xi X W (e :: es) ta ea) (hg : Gl X x := by rfl) (hdb : (x == ("__debug__" : Str)) = false := by decide)
    (he : starEach (e :: es) X.env = (false, eval e X.env) :: starEach es X.env := by rfl) (hpl : (backTo pos (starEach es X.env)).any (·.1) = false := by rfl) :
    JF kap xi X W (.Call (.Name x p) (e :: es) [] pos) (fun W => tCallSD (spD X.K kap n mu md) g.g.dvs (WE W) (ta W)) (wCallF n mu md dcs ea) := jCallF g.g g.hm hr tk ha hg hdb he hpl
theorem gMakeK {c : Nat} {ar : List D → List D → List D} (g : GK X.prog X.w X.K X.mg X.base kap x c k n j ks md ar) (hr : RoomG (k + 1) X.A) (tkx : Takes X W) (ha : JA kap xi X W (e :: es) ta eb) (hk : JK kap xi X W kws tk ek)
    (hj : ∀ de ds de', eb de = .ok ds de' → ds.length = j) (hz : ∀ de ds de', ek de = .ok ds de' → ds.length = ks.length)
    (hg : Gl X x := by rfl) (hall : (backToKw pos (keywordEach kws X.env)).all (·.1.isSome) = true := by rfl) (hks : (backToKw pos (keywordEach kws X.env)).filterMap (·.1) = ks := by rfl) (hdb : (x == ("__debug__" : Str)) = false := by decide)
    (he : starEach (e :: es) X.env = (false, eval e X.env) :: starEach es X.env := by rfl) (hpl : ((backTo pos (starEach (e :: es) X.env)).any (·.1) || (backToKw pos (keywordEach kws X.env)).any (·.1.isNone)) = false := by rfl) :
    JF kap xi X W (.Call (.Name x p) (e :: es) kws pos) (fun W => tMakeKSD g.C j ks.length (spD X.K kap n (some 0) md) g.g.gV (WE W) (ta W) (tk W)) (wMakeK c n md ar eb ek) := jMakeK c g.hk g.g g.im g.hm hr tkx ha hk hj hz hg hall hks hdb he hpl
theorem gRaise2 {c : Nat} (g : GX2 X.prog X.w X.K X.mg kap x c par ok) (hok : ∀ F v d, Rep X.K kap F v d → okd d = true → ok v) (hr : RoomG 1 X.A) (tk : Takes X W) (h : JE kap xi X W e t ev) (hc : X.calm = true := by rfl) (hg : Gl X x := by rfl) (hdb : (x == ("__debug__" : Str)) = false := by decide)
    (he : starEach (e :: []) X.env = (false, eval e X.env) :: starEach [] X.env := by rfl) (hpl : (backTo pos (starEach [] X.env)).any (·.1) = false := by rfl) :
    JS kap xi X W (.Raise (some (.Call (.Name x p) [e] [] pos)) none pos2) (fun W _ σ H => tMk2 g.C par ok (tCons (t W) tNil) σ H fun cls d H' => W cls d σ H') (vRaise2 c par okd ev) := jRaise2 c g.hk g.g hok g.hm hr tk h hc hg hdb he hpl
end
end DL
namespace DL
open PySem L2
theorem JE.via {kap : Kp} {xi : Xi} {X : Cx} {W : WX} {e : Expr} {t t' : WX → TE} {ev : DEnv → Rs D} (h : JE kap xi X W e t ev) (eq : t' = t) : JE kap xi X W e t' ev := by rw [eq]; exact h
end DL
namespace DL
open PySem L2
/-- what a law promises: True, for every script of at most n numbers -/
def spLaw (n : Nat) (K : PySem.W.Frag) : Sp := fun vs H Q _ => ∃ (a : Addr) (ns : List Int), vs = [.ref a] ∧ SqL K H a (ns.map V.int) ∧ ns.length ≤ n ∧ TabsL [] H ∧ ∀ H', Q (.bl true) H'
theorem law_imp {K : PySem.W.Frag} {kap : Kp} {m : List D → Fo} {n : Nat} (h : ∀ ns : List Int, ns.length ≤ n → ∃ q, m [.scr (ns.map .int)] = .ret (.bl true) q) (ht : kap.tab = []) (vs : List V) (H : Hp) (Q : VK) (E : XK) (hs : spLaw n K vs H Q E) : spD K kap 1 none m vs H Q E := by
  obtain ⟨a, ns, rfl, hS, hl, hT, hq⟩ := hs
  obtain ⟨q, e⟩ := h ns hl
  refine ⟨nT H, [.scr (ns.map .int)], none, rfl, ⟨nT_sub H, nT_nt H, by rw [ht]; exact hT⟩, ⟨rfl, fun i d hi _ => ?_, fun k d z => (by cases z), fun z => absurd rfl z⟩, ?_⟩
  · cases i with
    | zero =>
      simp at hi
      subst hi
      exact ⟨_, rfl, .scr (sqL_monoT (nT_same H) hS) (Reps.ints ns)⟩
    | succ i => simp at hi
  · rw [e]
    intro v F' H' _ r
    cases r
    exact hq H'
theorem tabs_only {H : Hp} (h : Only H) : TabsL [] H where
  tabs := fun _ z => nomatch z
  code := fun a o c q e _ => by
    rcases h a with z | ⟨ob, xs, z⟩
    · rw [z] at e; cases e
    · rw [z] at e; unfold ObjX at e; cases e
  only := fun a ps e => by
    rcases h a with z | ⟨ob, xs, z⟩
    · rw [z] at e; cases e
    · rw [z] at e; cases e
end DL
set_option maxRecDepth 100000
set_option maxHeartbeats 2000000
set_option autoImplicit false
namespace DL
open PySem L2
/-! ### [e for t in l if c] -/
def wipeD (de : DEnv) : List Nat → DEnv
  | [] => de
  | v :: vs => (wipeD de vs).set v .no
def restD (de0 : DEnv) : List Nat → DEnv → DEnv
  | [], de => de
  | v :: vs, de => (restD de0 vs de).set v (de0.getD v .no)
def plainS : Option Sl → Bool
  | some (.ow _) => false
  | some (.pn _) => false
  | some (.ex _ _) => false
  | some (.cn _) => false
  | some (.fl _ _) => false
  | some (.ll _ _) => false
  | _ => true
def plainAt (de : DEnv) (vs : List Nat) : Bool := vs.all fun i => plainS de[i]?
def lcGo (vs : List Nat) (g : D → DEnv → Option DEnv) (tt : DEnv → Rs Bool) (te : DEnv → Rs D) : List D → DEnv → Option (List D × DEnv)
  | [], de => some ([], de)
  | d :: r, de => (g d de).bind fun de1 => match tt de1 with
    | .ok true de2 => (match te de2 with
      | .ok x de3 => (lcGo vs g tt te r (wipeD de3 vs)).map fun p => (x :: p.1, p.2)
      | _ => none)
    | .ok false de2 => lcGo vs g tt te r (wipeD de2 vs)
    | _ => none
def vLc (vs : List Nat) (ei : DEnv → Rs (List D)) (g : D → DEnv → Option DEnv) (tt : DEnv → Rs Bool) (te : DEnv → Rs D) (de : DEnv) : Rs D :=
  (ei de).bind fun ds de1 => if plainAt de1 vs = true ∧ ds.length ≤ 16777216 then (match lcGo vs g tt te ds (wipeD de1 vs) with
    | some (xs, de2) => .ok (.lst xs) (restD de1 vs de2)
    | none => .bad) else .bad
theorem wipeD_len (de : DEnv) : ∀ vs, (wipeD de vs).length = de.length
  | [] => rfl
  | v :: vs => by rw [wipeD, List.length_set, wipeD_len de vs]
theorem wipeD_in {de : DEnv} {i : Nat} : ∀ {vs : List Nat}, i ∈ vs → ∀ s, (wipeD de vs)[i]? = some s → s = .no
  | v :: vs, hi, s, e => by
    rw [wipeD] at e
    rcases set_get e with ⟨_, _, z⟩ | ⟨n, e⟩
    · exact z
    · rcases List.mem_cons.mp hi with rfl | hi
      · rcases n with n | n
        · exact absurd rfl n
        · have := (List.getElem?_eq_some_iff.mp e).1
          rw [List.length_set] at this
          exact absurd this (Nat.not_lt.mpr n)
      · exact wipeD_in hi s e
theorem restD_len (de0 : DEnv) (de : DEnv) : ∀ vs, (restD de0 vs de).length = de.length
  | [] => rfl
  | v :: vs => by rw [restD, List.length_set, restD_len de0 de vs]
theorem restD_in {de0 de : DEnv} {i : Nat} : ∀ {vs : List Nat}, i ∈ vs → ∀ s, (restD de0 vs de)[i]? = some s → s = de0.getD i .no
  | v :: vs, hi, s, e => by
    rw [restD] at e
    rcases set_get e with ⟨h, _, z⟩ | ⟨n, e⟩
    · rw [z, h]
    · rcases List.mem_cons.mp hi with rfl | hi
      · rcases n with n | n
        · exact absurd rfl n
        · have := (List.getElem?_eq_some_iff.mp e).1
          rw [List.length_set] at this
          exact absurd this (Nat.not_lt.mpr n)
      · exact restD_in hi s e
theorem restD_out {de0 de : DEnv} {i : Nat} : ∀ {vs : List Nat}, i ∉ vs → (restD de0 vs de)[i]? = de[i]?
  | [], _ => rfl
  | v :: vs, hi => by
    rw [List.mem_cons, not_or] at hi
    rw [restD, List.getElem?_set_ne (Ne.symm hi.1), restD_out hi.2]
theorem wipe_in {σ : St} {i : Nat} : ∀ {vs : List Nat}, i ∈ vs → ∀ s, (wipe σ vs)[i]? = some s → s = none
  | v :: vs, hi, s, e => by
    rw [wipe] at e
    rcases set_get e with ⟨_, _, z⟩ | ⟨n, e⟩
    · exact z
    · rcases List.mem_cons.mp hi with rfl | hi
      · rcases n with n | n
        · exact absurd rfl n
        · have := (List.getElem?_eq_some_iff.mp e).1
          rw [List.length_set] at this
          exact absurd this (Nat.not_lt.mpr n)
      · exact wipe_in hi s e
/-- two states that agree off vs -/
theorem wipe_eq {σ τ : St} {vs : List Nat} (hl : σ.length = τ.length) (h : ∀ j, j ∉ vs → σ[j]? = τ[j]?) : wipe σ vs = wipe τ vs := by
  refine List.ext_getElem? fun j => ?_
  by_cases hj : j ∈ vs
  · cases e1 : (wipe σ vs)[j]? with
    | none =>
      have l1 := List.getElem?_eq_none_iff.mp e1
      rw [wipe_length, hl, ← wipe_length τ vs] at l1
      exact (List.getElem?_eq_none_iff.mpr l1).symm
    | some s =>
      have l1 := (List.getElem?_eq_some_iff.mp e1).1
      rw [wipe_length, hl, ← wipe_length τ vs] at l1
      cases e2 : (wipe τ vs)[j]? with
      | none => exact absurd l1 (Nat.not_lt.mpr (List.getElem?_eq_none_iff.mp e2))
      | some s' => rw [wipe_in hj s e1, wipe_in hj s' e2]
  · rw [wipe_out hj, wipe_out hj, h j hj]
section
variable {K : PySem.W.Frag} {kap : Kp} {xi : Xi} {F H : Hp} {sg : St} {de : DEnv} {O : Own?}
theorem RS.wipe (R : RS K kap xi F H sg de O) : ∀ vs : List Nat, ∃ O', RS K kap xi F H (L2.wipe sg vs) (wipeD de vs) O' ∧ Go F H de O F H (wipeD de vs) O'
  | [] => ⟨O, R, Go.refl⟩
  | v :: vs => by
    obtain ⟨O1, R1, g1⟩ := R.wipe vs
    have R2 := R1.put v none .no none (fun _ e => by cases e) (fun _ e => by cases e) (fun _ _ e => by cases e) fun _ => rfl
    exact ⟨_, R2, g1.trans (Go.put v .no none (fun _ e => by cases e) fun _ e => by cases e)⟩
/-- an object that is nobody's is changed -/
theorem RS.side (R : RS K kap xi F H sg de O) {p : Addr} {o : HO} (hf : F p = none) (hO : ∀ i, O i ≠ some p) (hc : NC H p) (ho : NL o p := by exact .ext (by simp) (by simp)) : RS K kap xi F (upd H p o) sg de O where
  len := R.len
  va := R.va
  ow := fun i s d e h => by
    obtain ⟨q, h1, h2, h3, h4⟩ := R.ow i s d e h
    have : q ≠ p := fun z => hO i (by rw [h1, z])
    exact ⟨q, h1, h2, h3, h4.mono (Same.refl F) (upd_ne this)⟩
  ex := R.ex
  onl := R.onl
  inj := R.inj
  sub := fun a u e => by
    have : a ≠ p := fun z => by rw [z, hf] at e; cases e
    rw [upd_ne this]
    exact R.sub a u e
  nt := R.nt
  tab := R.tab.upd hc ho
  cn := R.cn
  gh := R.ghs (Same.refl F) (fun i s d q _ _ h => ⟨(R.held h).1, upd_ne fun z => hO i (by rw [h, z])⟩) fun i s d h1 h2 => ⟨h1, rfl⟩
theorem Go.side {F1 H1 : Hp} {de1 : DEnv} {O1 : Own?} (g : Go F1 H1 de1 O1 F H de O) {p : Addr} {o : HO} (h1 : H1 p = none) : Go F1 H1 de1 O1 F (upd H p o) de O where
  ex := g.ex
  keep := fun a u e t n => by
    have : a ≠ p := fun z => by rw [z, h1] at e; cases e
    rw [upd_ne this]
    exact g.keep a u e t n
  new := g.new
  dom := fun a e => by
    by_cases z : a = p
    · rw [z]; exact h1
    · rw [upd_ne z] at e; exact g.dom a e
  fnew := g.fnew
  pin := g.pin
theorem RS.rest {F1 H1 : Hp} {sg1 : St} {de1 : DEnv} {O1 : Own?} {vs : List Nat} (R1 : RS K kap xi F1 H1 sg1 de1 O1) (hp : plainAt de1 vs = true) (ex : Same F1 F) (R : RS K kap xi F H (L2.wipe sg1 vs) de O) (hno : ∀ i ∈ vs, ∀ s, de[i]? = some s → s = .no) (hl : de.length = de1.length) :
    RS K kap xi F H sg1 (restD de1 vs de) O := by
  have pl : ∀ i ∈ vs, plainS de1[i]? = true := fun i hi => List.all_eq_true.mp hp i hi
  have got : ∀ {i : Nat} {s : Sl}, i ∈ vs → (restD de1 vs de)[i]? = some s → de1[i]? = some s := fun {i s} hi e => by
    have z := restD_in hi s e
    have l1 := (List.getElem?_eq_some_iff.mp e).1
    rw [restD_len, hl] at l1
    rw [z, List.getD_eq_getElem?_getD]
    simp [l1]
  refine ⟨by rw [restD_len, hl]; exact R1.len, fun i d e => ?_, fun i s d e h => ?_, fun i c fs e => ?_, fun i p e => ?_, R.inj, R.sub, R.nt, R.tab, fun i d e => ?_, R.ghs (Same.refl F) (fun i s d q _ _ h => ⟨(R.held h).1, rfl⟩) fun i s d e h => ?_⟩
  · by_cases hi : i ∈ vs
    · obtain ⟨v, h1, h2⟩ := R1.va i d (got hi e)
      exact ⟨v, h1, h2.mono ex⟩
    · rw [restD_out hi] at e
      obtain ⟨v, h1, h2⟩ := R.va i d e
      exact ⟨v, (wipe_some h1).1, h2⟩
  · by_cases hi : i ∈ vs
    · have := pl i hi
      rw [got hi e] at this
      cases s <;> first | (cases h; done) | (cases this; done)
    · rw [restD_out hi] at e
      obtain ⟨p, h1, h2, h3⟩ := R.ow i s d e h
      exact ⟨p, h1, (wipe_some h2).1, h3⟩
  · by_cases hi : i ∈ vs
    · have := pl i hi
      rw [got hi e] at this
      cases this
    · rw [restD_out hi] at e
      obtain ⟨a, d, h1, h2, h3⟩ := R.ex i c fs e
      exact ⟨a, d, h1, (wipe_some h2).1, h3⟩
  · obtain ⟨s, d, h1, h2⟩ := R.onl i p e
    by_cases hi : i ∈ vs
    · rw [hno i hi s h1] at h2
      cases h2
    · exact ⟨s, d, by rw [restD_out hi]; exact h1, h2⟩
  · by_cases hi : i ∈ vs
    · have := pl i hi
      rw [got hi e] at this
      cases this
    · rw [restD_out hi] at e
      obtain ⟨me, h1, h2, h3⟩ := R.cn i d e
      exact ⟨me, h1, (wipe_some h2).1, h3⟩
  · by_cases hi : i ∈ vs
    · have := pl i hi
      rw [got hi e] at this
      cases s <;> first | (cases h; done) | (cases this; done)
    · rw [restD_out hi] at e
      exact ⟨e, rfl⟩
end
structure JTs (kap : Kp) (xi : Xi) (X : Cx) (W : WX) (ifs : List Expr) (t : WX → TT) (ev : DEnv → Rs Bool) : Prop where
  p : PTs X ifs (t W)
  s : Snd X.K kap xi RlB t ev
def vYes (de : DEnv) : Rs Bool := .ok true de
theorem jtsNil {kap : Kp} {xi : Xi} {X : Cx} {W : WX} : JTs kap xi X W [] (fun _ => tYes) vYes := ⟨pts_nil, fun W F H sg de O Q R hp => hp.done R New.refl R.sub rfl⟩
def SndG (K : PySem.W.Frag) (kap : Kp) (xi : Xi) (g : TG) (is : List Nat) (ev : D → DEnv → Option DEnv) : Prop :=
  ∀ F H sg de O v d de' Q, RS K kap xi F H sg de O → Rep K kap F v d → ev d de = some de' → (∀ sg' O', RS K kap xi F H sg' de' O' → Go F H de O F H de' O' → (∀ j, j ∉ is → sg'[j]? = sg[j]?) → sg'.length = sg.length → Q sg' H) → g v sg H Q
theorem Go.notO {F H F' H' : Hp} {de de' : DEnv} {O O' : Own?} (g : Go F H de O F' H' de' O') {p : Addr} {o : HO} (h : H p = some o) (hf : F p = none) (hO : ∀ i, O i ≠ some p) (ho : ∀ ps, o ≠ .tbl ps := by intro _ z; first | cases z | (unfold exO at z; cases z)) : H' p = some o ∧ F' p = none ∧ ∀ i, O' i ≠ some p := by
  refine ⟨g.keep p o h ho hO, ?_, fun i e => ?_⟩
  · cases e : F' p with
    | none => rfl
    | some u =>
      rcases g.fnew p (by rw [e]; simp) with z | z | ⟨i, z⟩
      · exact absurd hf z
      · rw [h] at z; cases z
      · exact absurd z (hO i)
  · rcases g.new i p e with ⟨j, z⟩ | z
    · exact hO j z
    · rw [h] at z; cases z
theorem snd_lc {K : PySem.W.Frag} {kap : Kp} {xi : Xi} {wi : WX → TI} {g : TG} {is vs : List Nat} {tt : WX → TT} {te : WX → TE} {ei : DEnv → Rs (List D)} {eg : D → DEnv → Option DEnv} {et : DEnv → Rs Bool} {ee : DEnv → Rs D}
    (hi : Snd K kap xi (RlI K kap) wi ei) (hg : SndG K kap xi g is eg) (his : ∀ i ∈ is, i ∈ vs) (ht : Snd K kap xi RlB tt et) (he : Snd K kap xi (RlE K kap) te ee) :
    Snd K kap xi (RlF K kap) (fun W => tLc (wi W) g (tt W0) (te W0) vs) (vLc vs ei eg et ee) := by
  intro W F H sg de O Q R hp
  refine hi.bind R hp fun J ds F1 H1 de1 O1 R1 g1 ij _ hp => ?_
  split at hp
  · rename_i hh
    obtain ⟨hpl, hlen⟩ := hh
    obtain ⟨Ow, Rw, gw⟩ := R1.wipe vs
    cases el : lcGo vs eg et ee ds (wipeD de1 vs) with
    | none => rw [el] at hp; exact hp.elim
    | some p0 =>
      obtain ⟨xs, de2⟩ := p0
      rw [el] at hp
      intro Dn hD
      have hDF : F1 Dn = none := R1.sub.free hD
      have hDO : ∀ i, Ow i ≠ some Dn := Rw.nofresh hD
      have R0 := Rw.side (o := .lst []) hDF hDO (.none hD)
      refine ⟨fun i m Hc => m = ds.length - i ∧ i ≤ ds.length ∧ ∃ Fc dc Oc acc accD rest, Same F1 Fc ∧ RS K kap xi Fc Hc (L2.wipe sg vs) dc Oc ∧ Go F1 H1 (wipeD de1 vs) Ow Fc Hc dc Oc ∧ Hc Dn = some (.lst acc) ∧ Fc Dn = none ∧ (∀ i, Oc i ≠ some Dn) ∧ Reps K kap Fc acc accD ∧ accD.length ≤ i ∧
        (∀ i ∈ vs, ∀ s, dc[i]? = some s → s = .no) ∧ dc.length = de1.length ∧ lcGo vs eg et ee (ds.drop i) dc = some (rest, de2) ∧ accD ++ rest = xs,
        ⟨ds.length, by simp, Nat.zero_le _, F1, wipeD de1 vs, Ow, [], [], xs, Same.refl _, R0, Go.refl.side hD, upd_same, hDF, hDO, .nil, Nat.le_refl _, fun i hi s e => wipeD_in hi s e, wipeD_len _ _, by simpa using el, rfl⟩, ?_⟩
      rintro i m Hc ⟨rfl, hil, Fc, dc, Oc, acc, accD, rest, ex, Rc, gc, hDc, hFc, hOc, racc, hal, hno, hdl, hgo, hxs⟩
      obtain ⟨hstop, hstep⟩ := ij i Fc Hc ex Rc.sub
      by_cases hlt : i < ds.length
      · have hd : ds[i]? = some ds[i] := by simp [hlt]
        obtain ⟨go, hy⟩ := hstep _ hd
        rw [List.drop_eq_getElem_cons hlt] at hgo
        unfold lcGo at hgo
        refine .inr ⟨go, fun H' => ∃ Fc dc Oc acc accD rest, Same F1 Fc ∧ RS K kap xi Fc H' (L2.wipe sg vs) dc Oc ∧ Go F1 H1 (wipeD de1 vs) Ow Fc H' dc Oc ∧ H' Dn = some (.lst acc) ∧ Fc Dn = none ∧ (∀ i, Oc i ≠ some Dn) ∧ Reps K kap Fc acc accD ∧ accD.length ≤ i + 1 ∧
          (∀ i ∈ vs, ∀ s, dc[i]? = some s → s = .no) ∧ dc.length = de1.length ∧ lcGo vs eg et ee (ds.drop (i + 1)) dc = some (rest, de2) ∧ accD ++ rest = xs, fun H' p' => ⟨ds.length - (i + 1), by omega, rfl, hlt, p'⟩, fun x H' y => ?_⟩
        obtain ⟨F2, n2, s2, r2⟩ := hy x H' y
        have R2 := Rc.new n2 s2
        have g2 : Go Fc Hc dc Oc F2 H' dc Oc := n2.go
        obtain ⟨hD2, hF2, hO2⟩ := g2.notO hDc hFc hOc
        obtain ⟨dc1, eg1, hgo⟩ := bind_some hgo
        refine hg F2 H' (L2.wipe sg vs) dc Oc x _ dc1 _ R2 r2 eg1 fun sg3 O3 R3 g3 ag al => ?_
        have ew : L2.wipe sg3 vs = L2.wipe sg vs := by
          have h1 : L2.wipe sg3 vs = L2.wipe (L2.wipe sg vs) vs := wipe_eq al fun j hj => ag j fun z => hj (his j z)
          rw [h1]
          exact wipe_eq (wipe_length _ _) fun j hj => wipe_out hj
        refine ⟨ew, ?_⟩
        obtain ⟨hD3, hF3, hO3⟩ := g3.notO hD2 hF2 hO2
        have hgo : (match et dc1 with
          | .ok true de2 => (match ee de2 with
            | .ok x de3 => (lcGo vs eg et ee (ds.drop (i + 1)) (wipeD de3 vs)).map fun p => (x :: p.1, p.2)
            | _ => none)
          | .ok false de2 => lcGo vs eg et ee (ds.drop (i + 1)) (wipeD de2 vs)
          | _ => none) = some (rest, de2) := hgo
        refine ht W0 F2 H' sg3 dc1 O3 _ R3 ?_
        cases e4 : et dc1 with
        | bad => rw [e4] at hgo; cases hgo
        | ex c fs dc2 => rw [e4] at hgo; cases hgo
        | ok b dc2 =>
          rw [e4] at hgo
          intro v F3 H3 O4 R4 g4 rb _
          have rb : v = b := rb
          subst rb
          obtain ⟨hD4, hF4, hO4⟩ := g4.notO hD3 hF3 hO3
          have gA := ((gc.trans g2).trans g3).trans g4
          cases v with
          | false =>
            refine iteF ?_
            obtain ⟨O5, R5, g5⟩ := R4.wipe vs
            obtain ⟨hD5, hF5, hO5⟩ := g5.notO hD4 hF4 hO4
            rw [ew] at R5
            exact ⟨F3, wipeD dc2 vs, O5, acc, accD, rest, ((ex.trans n2.f).trans g4.ex), R5, gA.trans g5, hD5, hF5, hO5, racc.mono (n2.f.trans g4.ex), Nat.le_succ_of_le hal, fun i hi s e => wipeD_in hi s e,
              by rw [← R5.len, wipe_length, R1.len], hgo, hxs⟩
          | true =>
            refine iteT (he W0 F3 H3 sg3 dc2 O4 _ R4 ?_)
            have hgo : (match ee dc2 with
              | .ok x de3 => (lcGo vs eg et ee (ds.drop (i + 1)) (wipeD de3 vs)).map fun p => (x :: p.1, p.2)
              | _ => none) = some (rest, de2) := hgo
            cases e5 : ee dc2 with
            | bad => rw [e5] at hgo; cases hgo
            | ex c fs dc3 => rw [e5] at hgo; cases hgo
            | ok x0 dc3 =>
              rw [e5] at hgo
              obtain ⟨⟨rest', dz⟩, h1, h2⟩ := Option.map_eq_some_iff.mp hgo
              cases h2
              intro y0 F4 H4 O5 R5 g5 ry _
              obtain ⟨hD5, hF5, hO5⟩ := g5.notO hD4 hF4 hO4
              have hle : acc.length = accD.length := racc.length
              refine ⟨acc, hD5, by rw [line_eq, hle]; omega, ?_⟩
              have R6 := R5.side (o := .lst (acc ++ [y0])) hF5 hO5 (.lst hD5)
              obtain ⟨O6, R7, g7⟩ := R6.wipe vs
              obtain ⟨hD7, hF7, hO7⟩ := g7.notO upd_same hF5 hO5
              rw [ew] at R7
              exact ⟨F4, wipeD dc3 vs, O6, acc ++ [y0], accD ++ [x0], rest', (((ex.trans n2.f).trans g4.ex).trans g5.ex), R7, ((gA.trans g5).side hD).trans g7, hD7, hF7, hO7, (racc.mono ((n2.f.trans g4.ex).trans g5.ex)).append (.cons ry .nil), by rw [List.length_append]; simp; omega, fun i hi s e => wipeD_in hi s e,
                by rw [← R7.len, wipe_length, R1.len], h1, by rw [← hxs]; simp⟩
      · refine .inl ⟨hstop (Nat.le_of_not_lt hlt), ?_⟩
        rw [List.drop_eq_nil_of_le (Nat.le_of_not_lt hlt)] at hgo
        cases hgo
        rw [List.append_nil] at hxs
        subst hxs
        have Rr := R1.rest hpl ex Rc hno hdl
        refine hp (.ref Dn) Fc Hc Oc Rr ⟨gc.ex, fun a o h t n => gc.keep a o h t fun j e => ?_, fun j a e => ?_, gc.dom, fun a h => ?_, fun j d' e => ?_⟩ ⟨Dn, rfl, hFc, ⟨acc, hDc, racc⟩, hOc⟩ fun p z => by cases z; exact .inl hD
        · exact absurd e (fun _ => by
            rcases gw.new j a e with ⟨k, z⟩ | z
            · exact n k z
            · rw [h] at z; cases z)
        · rcases gc.new j a e with ⟨k, z⟩ | z
          · rcases gw.new k a z with ⟨k2, z2⟩ | z2
            · exact .inl ⟨k2, z2⟩
            · exact .inr z2
          · exact .inr z
        · rcases gc.fnew a h with z | z | ⟨k, z⟩
          · exact .inl z
          · exact .inr (.inl z)
          · rcases gw.new k a z with ⟨k2, z2⟩ | z2
            · exact .inr (.inr ⟨k2, z2⟩)
            · exact .inr (.inl z2)
        · have hj : j ∉ vs := fun hj => by
            have z := restD_in hj _ e
            have l1 := (List.getElem?_eq_some_iff.mp e).1
            rw [restD_len, hdl] at l1
            have p1 : plainS de1[j]? = true := List.all_eq_true.mp hpl j hj
            rw [List.getD_eq_getElem?_getD] at z
            rw [List.getElem?_eq_getElem l1] at p1 z
            have z : Sl.pn d' = de1[j] := by simpa using z
            rw [← z] at p1
            cases p1
          rw [restD_out hj] at e
          obtain ⟨k1, d1, k2⟩ := gc.pin j d' e
          obtain ⟨k3, d3, k4⟩ := gw.pin j d1 k2
          exact ⟨k1.trans k3, d3, k4⟩
  · exact hp.elim
open PySem.Spec PyProof.Rows
theorem jLc (own : List (Str × Nat)) {kap : Kp} {xi : Xi} {X : Cx} {W : WX} {tg iter elt : Expr} {ifs : List Expr} {scope : Scope} {pos : Pos} {wi : WX → TI} {g : TG} {is : List Nat} {tt : WX → TT} {te : WX → TE} {ei : DEnv → Rs (List D)} {eg : D → DEnv → Option DEnv} {et : DEnv → Rs Bool} {ee : DEnv → Rs D}
    (hN : X.N.Nodup) (ok : BlkOk X.N X.env.scope scope own) (hi : JI kap xi X W tg iter wi ei) (hg : ∀ (s : Shared) (H : Hp) (C : Addr) (cl : List (Str × Addr)) (fp : List Addr), JG kap (X.blk s H scope (compEnvC scope cl C X.env) fp) tg g is eg)
    (ht : ∀ (s : Shared) (H : Hp) (C : Addr) (cl : List (Str × Addr)) (fp : List Addr), JTs kap xi (X.blk s H scope (compEnvC scope cl C X.env) fp) W0 ifs tt et)
    (he : ∀ (s : Shared) (H : Hp) (C : Addr) (cl : List (Str × Addr)) (fp : List Addr), JE kap xi (X.blk s H scope (compEnvC scope cl C X.env) fp) W0 elt te ee)
    (his : ∀ i ∈ is, i ∈ own.map (·.2)) (hc : X.calm = true := by rfl) (hs : ∀ x, foldedSetIterable iter X.env x = pure x := by intro _; rfl) :
    JF kap xi X W (.ListComp elt [⟨tg, iter, ifs, 0⟩] scope pos) (fun W => tLc (wi W) g (tt W0) (te W0) (own.map (·.2))) (vLc (own.map (·.2)) ei eg et ee) :=
  ⟨pe_lc hc hN hi.p ok (fun s H C cl fp => (hg s H C cl fp).p) (fun s H C cl fp => (ht s H C cl fp).p) (fun s H C cl fp => (he s H C cl fp).p) hs,
    snd_lc hi.s (fun F H sg de O v d de' Q => (hg X.s_0 X.H_0 0 [] []).s xi F H sg de O v d de' Q) his (ht X.s_0 X.H_0 0 [] []).s (he X.s_0 X.H_0 0 [] []).s⟩
theorem snd_set {K : PySem.W.Frag} {kap : Kp} {xi : Xi} {t : WX → TE} {ev : DEnv → Rs D} (i : Nat) (h : Snd K kap xi (RlE K kap) t ev) : SndS K kap xi (fun W => tAsg (t W) (gName i)) (vSet i ev) := by
  intro W F H sg de O Dn R hp
  refine h.out R hp fun v d F1 H1 de1 O1 R1 g1 r _ hp => ?_
  obtain ⟨R2, g2⟩ := R1.setv i r
  exact hp F1 H1 _ _ R2 g2
section
variable {kap : Kp} {xi : Xi} {X : Cx} {W : WX} {tg iter elt : Expr} {ifs : List Expr} {scope : Scope} {pos spos py : Pos} {wi : WX → TI} {g : TG} {is : List Nat} {tt : WX → TT} {te : WX → TE} {ei : DEnv → Rs (List D)} {eg : D → DEnv → Option DEnv} {et : DEnv → Rs Bool} {ee : DEnv → Rs D} {y : Str}
/-- x = [..] on one line, x frozen; x owned -/
theorem jSetLc (i : Nat) (own : List (Str × Nat)) (hN : X.N.Nodup) (ok : BlkOk X.N X.env.scope scope own) (hi : JI kap xi X W tg iter wi ei) (hg : ∀ (s : Shared) (H : Hp) (C : Addr) (cl : List (Str × Addr)) (fp : List Addr), JG kap (X.blk s H scope (compEnvC scope cl C X.env) fp) tg g is eg)
    (ht : ∀ (s : Shared) (H : Hp) (C : Addr) (cl : List (Str × Addr)) (fp : List Addr), JTs kap xi (X.blk s H scope (compEnvC scope cl C X.env) fp) W0 ifs tt et)
    (he : ∀ (s : Shared) (H : Hp) (C : Addr) (cl : List (Str × Addr)) (fp : List Addr), JE kap xi (X.blk s H scope (compEnvC scope cl C X.env) fp) W0 elt te ee)
    (his : ∀ i ∈ is, i ∈ own.map (·.2)) (hy : X.N[i]? = some y := by rfl) (hyl : X.env.scope.names.lookup y = some .local := by rfl) (hk : X.env.scope.kind = .function := by rfl) (hln : (py.line == pos.line) = true := by rfl) (hsn : (scope.names.any fun (n, k) => n == y && (k == .local || k == .cell)) = false := by rfl)
    (hc : X.calm = true := by rfl) (hs : ∀ x, foldedSetIterable iter X.env x = pure x := by intro _; rfl) :
    JS kap xi X W (.Assign [.Name y py] (.ListComp elt [⟨tg, iter, ifs, 0⟩] scope pos) spos) (fun W => tAsg (tLc (wi W) g (tt W0) (te W0) (own.map (·.2))) (gName i)) (vSet i (vLc (own.map (·.2)) ei eg et ee)) :=
  ⟨ps_setLc hc hN hy hyl (sw_true hk hyl hln hsn) hi.p ok (fun s H C cl fp => (hg s H C cl fp).p) (fun s H C cl fp => (ht s H C cl fp).p) (fun s H C cl fp => (he s H C cl fp).p) hs,
    snd_set i (snd_fz (snd_lc hi.s (fun F H sg de O v d de' Q => (hg X.s_0 X.H_0 0 [] []).s xi F H sg de O v d de' Q) his (ht X.s_0 X.H_0 0 [] []).s (he X.s_0 X.H_0 0 [] []).s))⟩
end
end DL
namespace DL
open PySem L2
theorem JTs.via {kap : Kp} {xi : Xi} {X : Cx} {W : WX} {ifs : List Expr} {t t' : WX → TT} {ev : DEnv → Rs Bool} (h : JTs kap xi X W ifs t ev) (eq : t' = t) : JTs kap xi X W ifs t' ev := by rw [eq]; exact h
theorem JG.via {kap : Kp} {X : Cx} {tg : Expr} {g g' : TG} {is : List Nat} {ev : D → DEnv → Option DEnv} (h : JG kap X tg g is ev) (eq : g' = g) : JG kap X tg g' is ev := by rw [eq]; exact h
end DL
set_option maxRecDepth 100000
set_option maxHeartbeats 2000000
set_option autoImplicit false
/-! more of lists, numbers -/
namespace DL
open PySem L2
def gExtend (ds as : List D) : Option (D × List D) := match as with
  | [.lst es] => if ds.length + es.length ≤ 16777216 then some (.non, ds ++ es) else none
  | _ => none
section
variable {K : PySem.W.Frag} {kap : Kp}
theorem Reps.dropLast {F : Hp} : ∀ {vs : List V} {ds : List D}, Reps K kap F vs ds → Reps K kap F vs.dropLast ds.dropLast
  | _, _, .nil => .nil
  | _, _, .cons h .nil => .nil
  | _, _, .cons h (.cons h2 r) => .cons h (Reps.dropLast (.cons h2 r))
theorem Reps.erase {F : Hp} : ∀ {vs : List V} {ds : List D} (n : Nat), Reps K kap F vs ds → Reps K kap F (vs.eraseIdx n) (ds.eraseIdx n)
  | _, _, _, .nil => .nil
  | _, _, 0, .cons _ r => r
  | _, _, n + 1, .cons h r => .cons h (Reps.erase n r)
end
/-- the rule of a method of an owned list, the frozen part within the heap -/
def SPM2 (K : PySem.W.Frag) (kap : Kp) (r : V → List V → Hp → VK → Prop) (g : List D → List D → Option (D × List D)) : Prop :=
  ∀ F H p vs ds xs as z ds' Q, Same F H → H p = some (.lst vs) → Reps K kap F vs ds → Reps K kap F xs as → g ds as = some (z, ds') → (∀ v vs', Rep K kap F v z → Reps K kap F vs' ds' → Q v (upd H p (.lst vs'))) → r (.ref p) xs H Q
theorem SPM.two {K : PySem.W.Frag} {kap : Kp} {r : V → List V → Hp → VK → Prop} {g : List D → List D → Option (D × List D)} (s : SPM K kap r g) : SPM2 K kap r g := fun F H p vs ds xs as z ds' Q _ => s F H p vs ds xs as z ds' Q
theorem spm_extend {K : PySem.W.Frag} {kap : Kp} : SPM2 K kap rExtend gExtend := by
  intro F H p vs ds xs as z ds' Q sub h r ra e q
  unfold gExtend at e
  split at e
  · split at e
    · rename_i hl
      cases e
      cases ra with
      | cons r1 r2 =>
        cases r2
        cases r1 with
        | lst h1 r1 =>
          exact ⟨p, _, vs, _, rfl, rfl, h, sub _ _ h1, by rw [line_eq, r.length, r1.length]; exact hl, q _ _ .non (r.append r1)⟩
    · cases e
  · cases e
theorem snd_mut2 {kap : Kp} {xi : Xi} {ta : WX → TA} {ea : DEnv → Rs (List D)} (i : Nat) {K : PySem.W.Frag} {r : V → List V → Hp → VK → Prop} {g : List D → List D → Option (D × List D)} (s : SPM2 K kap r g) (ha : Snd K kap xi (RlA K kap) ta ea) :
    Snd K kap xi (RlE K kap) (fun W => tBM K "list" r (tVar i) (ta W)) (vMut i g ea) := by
  intro W F H sg de O Q R hp
  unfold vMut at hp
  split at hp
  · rename_i hsl
    cases e0 : slotAt i de with
    | none => rw [e0] at hsl; cases hsl
    | some d0 =>
      rw [e0] at hsl
      obtain ⟨u, hu, ru⟩ := R.rb e0
      refine ⟨u, hu, ty_lst R.sub ru hsl, ?_⟩
      refine ha.bind R hp fun xs as F2 H2 de2 O2 R2 g2 ra _ hp => ?_
      split at hp
      · rename_i sl ds eo
        split at hp
        · rename_i z ds' eg
          obtain ⟨e1, e2, p, h1, h2, h3, vs, h4, h5⟩ := R2.owl eo
          rw [hu] at h2
          cases h2
          refine s F2 H2 p vs ds xs as z ds' Q R2.sub h4 h5 ra eg fun v vs' rv rvs => ?_
          obtain ⟨R3, g3⟩ := R2.mut (o := .lst vs') (d' := .lst ds') e1 e2 h1 ⟨_, upd_same, rvs⟩
          exact hp v F2 _ O2 R3 g3 rv fun _ z => z.elim
        · exact hp.elim
      · exact hp.elim
  · exact hp.elim
section
variable {kap : Kp} {xi : Xi} {X : Cx} {W : WX} {e : Expr} {es : List Expr} {ta : WX → TA} {ea : DEnv → Rs (List D)} {xp cpos apos : Pos} {x nm : Str} {id : String} {r : V → List V → Hp → VK → Prop} {g : List D → List D → Option (D × List D)}
theorem jLm (slot : Slot "list" nm id) (hty : typeOf (.builtin id) = pure (.type "method_descriptor")) (hm : MtR X id r) (s : SPM2 X.K kap r g) (i : Nat) (ha : JA kap xi X W (e :: es) ta ea) (hN : X.N[i]? = some x := by rfl) (hvis : Vis X.env.scope x := by first | exact Or.inl rfl | exact Or.inr (Or.inl rfl) | exact Or.inr (Or.inr rfl))
    (hd : (x == ("__debug__" : Str)) = false := by decide) (hcd : (x == ("__classdict__" : Str)) = false := by decide)
    (hbase : attributeBase (.Name x xp) nm X.env (eval (.Name x xp) X.env) = eval (.Name x xp) X.env := by rfl)
    (hfew : ((backTo cpos (starEach (e :: es) X.env)).all (fun x => !x.1) && (backToKw cpos (keywordEach [] X.env)).all (fun x => x.1.isSome)
      && decide ((e :: es).length + ([] : List Keyword).length + (if ([] : List Keyword).isEmpty then 0 else 1) < 30)) = true := by rfl)
    (hline : (apos.endLine == cpos.line) = true := by rfl) (hs : starEach (e :: es) X.env = (false, eval e X.env) :: starEach es X.env := by rfl) (hplain : (backTo cpos (starEach es X.env)).any (·.1) = false := by rfl) :
    JE kap xi X W (.Call (.Attribute (.Name x xp) nm apos) (e :: es) [] cpos) (fun W => tBM X.K "list" r (tVar i) (ta W)) (vMut i g ea) :=
  ⟨pe_bm PySem.F.plainAttrs_list slot hty hm (pe_var hN hvis hd hcd) ha.p hbase hfew hline hs hplain, snd_mut2 i s ha.s⟩
end
/-! ### numbers of a list; gcd -/
def asIs : List D → Option (List Int)
  | [] => some []
  | .int i :: r => (asIs r).map (i :: ·)
  | _ :: _ => none
theorem reps_ints {K : PySem.W.Frag} {kap : Kp} {F : Hp} : ∀ {vs : List V} {ds : List D} {ns : List Int}, Reps K kap F vs ds → asIs ds = some ns → vs = ns.map V.int
  | _, _, _, .nil, e => by cases e; rfl
  | _, _, _, .cons h r, e => by
    cases h with
    | int i =>
      obtain ⟨m, e1, rfl⟩ := Option.map_eq_some_iff.mp e
      rw [reps_ints r e1]
      rfl
    | _ => cases e
def fSum : List D → Option D
  | [.lst ds] => (asIs ds).map fun ns => .int ns.sum
  | _ => none
end DL
set_option maxRecDepth 100000
set_option maxHeartbeats 2000000
set_option autoImplicit false
namespace DL
open PySem L2
/-- list(range(n)), list(range(i, j)) -/
def vListRg (er : DEnv → Rs (Int × Int)) (de : DEnv) : Rs D := (er de).bind fun p de1 => if -1000000 ≤ p.1 ∧ p.1 ≤ 1000000 ∧ -1000000 ≤ p.2 ∧ p.2 ≤ 1000000 then .ok (.lst (rangeD p.1 (p.2 - p.1).toNat)) de1 else .bad
def vR1 (ev : DEnv → Rs D) (de : DEnv) : Rs (Int × Int) := (ev de).bind fun d de1 => ofO ((asI d).map fun n => (0, n)) de1
def vR2 (ev ev' : DEnv → Rs D) (de : DEnv) : Rs (Int × Int) := (ev de).bind fun d de1 => (ev' de1).bind fun d' de2 => ofO ((asI d).bind fun i => (asI d').map fun j => (i, j)) de2
section
variable {kap : Kp} {xi : Xi} {X : Cx} {W : WX} {e e' : Expr} {t t' : WX → TE} {ev ev' : DEnv → Rs D} {p p2 pos pos2 : Pos}
theorem reps_rg {K : PySem.W.Frag} {F : Hp} (i j : Int) : Reps K kap F (rgV i j) (rangeD i (j - i).toNat) := by
  unfold rgV rangeD
  generalize List.range (j - i).toNat = l
  induction l with
  | nil => exact .nil
  | cons x l ih => exact .cons (.int _) ih
theorem snd_listRg {K : PySem.W.Frag} {tr : WX → St → Hp → (Int → Int → Hp → Prop) → Prop} {er : DEnv → Rs (Int × Int)} (h : ∀ W F H sg de O (Q : Int → Int → Hp → Prop), RS K kap xi F H sg de O → (match er de with
      | .ok q de1 => ∀ F1 H1 O1, RS K kap xi F1 H1 sg de1 O1 → Go F H de O F1 H1 de1 O1 → Q q.1 q.2 H1
      | .ex c fs de1 => PX K kap xi F H de O W c fs de1
      | .bad => False) → tr W sg H Q) : Snd K kap xi (RlF K kap) (fun W => tLstRg (tr W)) (vListRg er) := by
  intro W F H sg de O Q R hp
  refine h W F H sg de O _ R ?_
  unfold vListRg at hp
  cases e : er de with
  | ok q de1 =>
    rw [e] at hp
    intro F1 H1 O1 R1 g1
    have hp := PE1.shift g1 hp
    have hp : PE1 K kap (RlF K kap) xi F1 H1 sg de1 O1 W Q (if -1000000 ≤ q.1 ∧ q.1 ≤ 1000000 ∧ -1000000 ≤ q.2 ∧ q.2 ≤ 1000000 then .ok (.lst (rangeD q.1 (q.2 - q.1).toNat)) de1 else .bad) := hp
    split at hp
    · rename_i hh
      have ho : RgOk q.1 q.2 := ⟨by omega, by omega, by omega, by omega, by omega⟩
      refine ⟨ho, fun l hl => ?_⟩
      obtain ⟨n, s2⟩ := new_fresh (o := .lst (rgV q.1 q.2)) R1.sub hl
      exact hp.done R1 n s2 (fresh_new R1 n s2 hl ⟨_, upd_same, reps_rg q.1 q.2⟩) fun p' e => by cases e; exact hl
    · exact hp.elim
  | ex c fs de1 => rw [e] at hp; exact hp
  | bad => rw [e] at hp; exact hp.elim
theorem jListR1 (hl : X.mg "list" = none) (hr : X.mg "range" = none) (h : JE kap xi X W e t ev) (hc : X.calm = true := by rfl) (hg : Gl X "list" := by rfl) (hg2 : Gl X "range" := by rfl)
    (na : starEach [e] X.env = (false, eval e X.env) :: starEach [] X.env := by rfl) (nb : starEach [.Call (.Name "range" p2) [e] [] pos2] X.env = (false, eval (.Call (.Name "range" p2) [e] [] pos2) X.env) :: starEach [] X.env := by rfl) :
    JF kap xi X W (.Call (.Name "list" p) [.Call (.Name "range" p2) [e] [] pos2] [] pos) (fun W => tLstRg (tRg1 (t W))) (vListRg (vR1 ev)) := ⟨pe_listRg hc hg hl (prg_1 hg2 hr h.p na) nb, by
  refine snd_listRg fun W F H sg de O Q R hp => ?_
  refine h.s W F H sg de O _ R ?_
  unfold vR1 at hp
  cases ee : ev de with
  | ok d de1 =>
    rw [ee] at hp
    intro v F1 H1 O1 R1 g1 r _
    cases r with
    | int i => exact ⟨i, rfl, hp F1 H1 O1 R1 g1⟩
    | _ => exact hp.elim
  | ex c fs de1 => rw [ee] at hp; exact hp
  | bad => rw [ee] at hp; exact hp.elim⟩
end
end DL
set_option maxRecDepth 100000
set_option maxHeartbeats 2000000
set_option autoImplicit false
namespace DL
open PySem L2 PySem.Spec PyProof.Rows
/-! ### slots that nobody reads any more -/
def dropO (vs : List Nat) : Ot → Ot
  | .nx de => .nx (wipeD de vs)
  | .ct de => .ct (wipeD de vs)
  | .brk de => .brk (wipeD de vs)
  | o => o
def vPre (vs : List Nat) (e : DEnv → Ot) (de : DEnv) : Ot := e (wipeD de vs)
def vPost (vs : List Nat) (e : DEnv → Ot) (de : DEnv) : Ot := dropO vs (e de)
section
variable {K : PySem.W.Frag} {kap : Kp} {xi : Xi} {F H : Hp} {sg : L2.St} {de : DEnv} {O : Own?}
theorem RS.forget1 (R : RS K kap xi F H sg de O) (i : Nat) : ∃ O', RS K kap xi F H sg (de.set i .no) O' ∧ Go F H de O F H (de.set i .no) O' := by
  by_cases il : i < sg.length
  · have R2 := R.put i sg[i] .no none (fun _ e => by cases e) (fun _ e => by cases e) (fun _ _ e => by cases e) fun _ => rfl
    rw [List.set_getElem_self] at R2
    exact ⟨_, R2, Go.put i .no none (fun _ e => by cases e) fun _ e => by cases e⟩
  · have e : de.set i .no = de := List.set_eq_of_length_le (by rw [← R.len]; omega)
    rw [e]
    exact ⟨O, R, Go.refl⟩
theorem RS.forget : ∀ (vs : List Nat) {de : DEnv} {O : Own?}, RS K kap xi F H sg de O → ∃ O', RS K kap xi F H sg (wipeD de vs) O' ∧ Go F H de O F H (wipeD de vs) O'
  | [], de, O, R => ⟨O, R, Go.refl⟩
  | v :: vs, de, O, R => by
    obtain ⟨O1, R1, g1⟩ := RS.forget vs R
    obtain ⟨O2, R2, g2⟩ := R1.forget1 v
    exact ⟨O2, R2, g1.trans g2⟩
end
section
variable {kap : Kp} {xi : Xi} {X : Cx} {W : WX} {st : Stmt} {sts : List Stmt} {t : WX → TS} {e : DEnv → Ot}
theorem snd_pre (vs : List Nat) {K : PySem.W.Frag} (h : SndS K kap xi t e) : SndS K kap xi t (vPre vs e) := by
  intro W F H sg de O Dn R hp
  obtain ⟨O2, R2, g2⟩ := R.forget vs
  exact h W F H sg _ O2 Dn R2 (PS1.shift g2 hp)
theorem snd_post (vs : List Nat) {K : PySem.W.Frag} (h : SndS K kap xi t e) : SndS K kap xi t (vPost vs e) := by
  intro W F H sg de O Dn R hp
  refine h W F H sg de O Dn R ?_
  unfold vPost at hp
  cases eo : e de with
  | nx de1 =>
    rw [eo] at hp
    intro F' H' sg' O' R' g'
    obtain ⟨O2, R2, g2⟩ := R'.forget vs
    exact hp F' H' sg' O2 R2 (g'.trans g2)
  | ct de1 =>
    rw [eo] at hp
    intro F' H' sg' O' R' g'
    obtain ⟨O2, R2, g2⟩ := R'.forget vs
    exact hp F' H' sg' O2 R2 (g'.trans g2)
  | brk de1 =>
    rw [eo] at hp
    intro F' H' sg' O' R' g'
    obtain ⟨O2, R2, g2⟩ := R'.forget vs
    exact hp F' H' sg' O2 R2 (g'.trans g2)
  | ret d de1 => rw [eo] at hp; exact hp
  | retF d de1 => rw [eo] at hp; exact hp
  | ex c fs de1 => rw [eo] at hp; exact hp
  | bad => rw [eo] at hp; exact hp
theorem jPre (vs : List Nat) (h : JS kap xi X W st t e) : JS kap xi X W st t (vPre vs e) := ⟨h.p, snd_pre vs h.s⟩
theorem jssPost (vs : List Nat) (h : JSs kap xi X W sts t e) : JSs kap xi X W sts t (vPost vs e) := ⟨h.p, snd_post vs h.s⟩
end
def vIdrop (vs : List Nat) (ei : DEnv → Rs (List D)) (de : DEnv) : Rs (List D) := (ei de).bind fun ds de1 => .ok ds (wipeD de1 vs)
theorem jiDrop {kap : Kp} {xi : Xi} {X : Cx} {W : WX} {tg iter : Expr} {wi : WX → TI} {ei : DEnv → Rs (List D)} (vs : List Nat) (h : JI kap xi X W tg iter wi ei) : JI kap xi X W tg iter wi (vIdrop vs ei) := ⟨h.p, by
  intro W F H sg de O Q R hp
  refine h.s.bind R hp fun J ds F1 H1 de1 O1 R1 g1 ij _ hp => ?_
  obtain ⟨O2, R2, g2⟩ := R1.forget vs
  exact hp J F1 H1 O2 R2 g2 ij fun _ z => z.elim⟩
/-! ### in, not in, over data -/
def fIn (a b : D) : Option D := match b with
  | .lst xs => if SeqAt.shaped (toPy a) && SeqAt.shaped (.list (toPys xs)) then some (.bl ((toPys xs).any fun z => PyData.eqv z (toPy a))) else none
  | _ => none
def fNotIn (a b : D) : Option D := match b with
  | .lst xs => if SeqAt.shaped (toPy a) && SeqAt.shaped (.list (toPys xs)) then some (.bl (!(toPys xs).any fun z => PyData.eqv z (toPy a))) else none
  | _ => none
section
variable {K : PySem.W.Frag} {kap : Kp}
theorem dp_lst {F H : Hp} {y : V} {xs : List D} (sub : Same F H) (rb : RB K kap F H y (.lst xs)) (h : SeqAt.shaped (.list (toPys xs)) = true) : Dp K H y (.list (toPys xs)) := dp_of (kap := kap) (d := .lst xs) (rb.rep sub) (SeqAt.canLay_of_shaped h)
theorem sp_in : SP2 K kap (rInD K) fIn := by
  intro F H x y a b z Q sub nt ra rb e q
  unfold fIn at e
  split at e
  · split at e
    · rename_i h
      rw [Bool.and_eq_true] at h
      cases e
      exact ⟨_, _, dp_of (ra.rep sub) (SeqAt.canLay_of_shaped h.1), dp_lst sub rb h.2, h.1, h.2, q _ F H New.refl sub (.bl _)⟩
    · cases e
  · cases e
theorem sp_notIn : SP2 K kap (rNotInD K) fNotIn := by
  intro F H x y a b z Q sub nt ra rb e q
  unfold fNotIn at e
  split at e
  · split at e
    · rename_i h
      rw [Bool.and_eq_true] at h
      cases e
      exact ⟨_, _, dp_of (ra.rep sub) (SeqAt.canLay_of_shaped h.1), dp_lst sub rb h.2, h.1, h.2, q _ F H New.refl sub (.bl _)⟩
    · cases e
  · cases e
theorem uu65 {k : Nat} {A : Around} (r : RoomG k A) : A.units + 65 < cLine := by have := r.un; omega
/-! ### pop(i), xs * k -/
end
end DL
set_option maxRecDepth 100000
set_option maxHeartbeats 2000000
set_option autoImplicit false
namespace DL
open PySem L2 PySem.Spec PyProof.Rows
/-! ### several except clauses, with names or without -/
abbrev HT3 := Addr → Value → Option Addr → TS
def offT (i : Nat) (ts : HT3) : HT3 := fun a cls d D σ H => ts a cls d { nx := fun σ' H' => D.nx (σ'.set i none) H', rt := D.rt, bk := fun σ' H' => D.bk (σ'.set i none) H', ct := fun σ' H' => D.ct (σ'.set i none) H' } (σ.set i (some (.ref a))) H
inductive HdN (X : Cx) : List ExceptHandler → List (Value × HT3) → Prop
  | nil : HdN X [] []
  | cons {x : Str} {c : Value} {ts : HT3} {b₀ : Stmt} {suite : List Stmt} {np pos' : Pos} {hds : List ExceptHandler} {l : List (Value × HT3)} (hc : Names X x c)
      (hsu : ∀ (a : Addr) (oe : Obj) (cls : Value) (d : Option Addr) (pn : List (Addr × Obj)), Zc cls d oe → (∃ vs, oe.data = .fields vs) → PSs (X.suite a ((a, oe) :: pn)) (b₀ :: suite) (ts a cls d)) (r : HdN X hds l) :
      HdN X (.ExceptHandler (some (.Name x np)) none (b₀ :: suite) pos' :: hds) ((c, ts) :: l)
  | consAs {x n : Str} {i : Nat} {c : Value} {ts : HT3} {b₀ : Stmt} {suite : List Stmt} {np pos' : Pos} {hds : List ExceptHandler} {l : List (Value × HT3)} (hN : X.N.Nodup) (hi : X.N[i]? = some n) (hln : X.env.kindOf n = some .local) (hc : Names X x c)
      (hsu : ∀ (a : Addr) (oe : Obj) (cls : Value) (d : Option Addr) (pn : List (Addr × Obj)), Zc cls d oe → (∃ vs, oe.data = .fields vs) → PSs (X.suite a ((a, oe) :: pn)) (b₀ :: suite) (ts a cls d)) (r : HdN X hds l) :
      HdN X (.ExceptHandler (some (.Name x np)) (some n) (b₀ :: suite) pos' :: hds) ((c, offT i ts) :: l)
/-- the clauses on data: which classes, the name's slot if any, the suite -/
abbrev HdD := (Nat → Option Bool) × Option Nat × (DEnv → Ot)
def hdRun (o : Option Nat) (es : DEnv → Ot) (c : Nat) (fs : List (Str × D)) (de1 : DEnv) : Ot := match o with
  | some i => if calmD (de1.set i .no) = true then offEx i (es (de1.set i (.ex c fs))) else .bad
  | none => noOut (es de1)
def hdsRun (c : Nat) (fs : List (Str × D)) (de1 : DEnv) : List HdD → Ot
  | [] => .ex c fs de1
  | (mt, o, es) :: r => match mt c with
    | some true => hdRun o es c fs de1
    | some false => hdsRun c fs de1 r
    | none => .bad
def vTryMany (l : List HdD) (eb : DEnv → Ot) (de : DEnv) : Ot := match eb de with
  | .ex c fs de1 => hdsRun c fs de1 l
  | o => o
inductive JHs (kap : Kp) (xi : Xi) (X : Cx) : List ExceptHandler → List (Value × HT3) → List HdD → Prop
  | nil : JHs kap xi X [] [] []
  | cons {x : Str} {c : Value} {mt : Nat → Option Bool} {ts : Addr → Value → Option Addr → WX → TS} {es : DEnv → Ot} {b₀ : Stmt} {suite : List Stmt} {np pos' : Pos} {hds : List ExceptHandler} {l : List (Value × HT3)} {dl : List HdD} (hc : Names X x c)
      (hm : ∀ k b, mt k = some b → PySem.W.exmOne X.K (.ref (kap k)) c = some b)
      (hsu : ∀ (a : Addr) (oe : Obj) (cls : Value) (d : Option Addr) (pn : List (Addr × Obj)), Zc cls d oe → (∃ vs, oe.data = .fields vs) → JSs kap xi (X.suite a ((a, oe) :: pn)) W0 (b₀ :: suite) (ts a cls d) es) (r : JHs kap xi X hds l dl) :
      JHs kap xi X (.ExceptHandler (some (.Name x np)) none (b₀ :: suite) pos' :: hds) ((c, fun a cls d => ts a cls d W0) :: l) ((mt, none, es) :: dl)
  | consAs {x n : Str} (i : Nat) {c : Value} {mt : Nat → Option Bool} {ts : Addr → Value → Option Addr → WX → TS} {es : DEnv → Ot} {b₀ : Stmt} {suite : List Stmt} {np pos' : Pos} {hds : List ExceptHandler} {l : List (Value × HT3)} {dl : List HdD} (hN : X.N.Nodup) (hi : X.N[i]? = some n) (hln : X.env.kindOf n = some .local) (hc : Names X x c)
      (hm : ∀ k b, mt k = some b → PySem.W.exmOne X.K (.ref (kap k)) c = some b)
      (hsu : ∀ (a : Addr) (oe : Obj) (cls : Value) (d : Option Addr) (pn : List (Addr × Obj)), Zc cls d oe → (∃ vs, oe.data = .fields vs) → JSs kap (some (.inl (a, cls, d))) (X.suite a ((a, oe) :: pn)) W0 (b₀ :: suite) (ts a cls d) es) (r : JHs kap xi X hds l dl) :
      JHs kap xi X (.ExceptHandler (some (.Name x np)) (some n) (b₀ :: suite) pos' :: hds) ((c, offT i fun a cls d => ts a cls d W0) :: l) ((mt, some i, es) :: dl)
section
variable {kap : Kp} {xi : Xi} {X : Cx} {W : WX} {body : List Stmt} {h₀ : ExceptHandler} {hds : List ExceptHandler} {l : List (Value × HT3)} {dl : List HdD} {pos : Pos} {tb : WX → TS} {eb : DEnv → Ot}
theorem JHs.p {hds : List ExceptHandler} {l : List (Value × HT3)} {dl : List HdD} (h : JHs kap xi X hds l dl) : HdN X hds l := by
  induction h with
  | nil => exact .nil
  | cons hc hm hsu r ih => exact .cons hc (fun a oe cls d pn hz hf => (hsu a oe cls d pn hz hf).p) ih
  | consAs i hN hi hln hc hm hsu r ih => exact .consAs hN hi hln hc (fun a oe cls d pn hz hf => (hsu a oe cls d pn hz hf).p) ih
theorem JHs.s {hds : List ExceptHandler} {l : List (Value × HT3)} {dl : List HdD} (h : JHs kap xi X hds l dl) {F H : Hp} {de : DEnv} {O : Own?} {W : WX} {Dn : Ends} {c : Nat} {fs : List (Str × D)} {de1 : DEnv}
    (hp : PS1 X.K kap xi F H de O W Dn (hdsRun c fs de1 dl)) : PX X.K kap xi F H de O (wMany X.K W Dn l) c fs de1 := by
  induction h with
  | nil => exact hp
  | @cons x cv mt ts es b₀ suite np pos' hds l dl hc hm hsu r ih =>
    unfold hdsRun at hp
    intro F' H' sg' O' d R' g' xr
    split at hp
    · rename_i hmt
      refine ⟨true, hm c true hmt, fun _ a ha => ?_, fun z => by cases z⟩
      have hp := PS1.shift g' hp
      exact (hsu a { cls := .ref (kap c), dict := d, data := .fields #[] } (.ref (kap c)) d [] ⟨rfl, rfl⟩ ⟨_, rfl⟩).s W0 F' H' _ _ _ _ R' (noOut_ends hp)
    · rename_i hmt
      exact ⟨false, hm c false hmt, (fun z => by cases z), fun _ => ih hp F' H' sg' O' d R' g' xr⟩
    · exact hp.elim
  | @consAs x n i cv mt ts es b₀ suite np pos' hds l dl hN hi hln hc hm hsu r ih =>
    unfold hdsRun at hp
    intro F' H' sg' O' d R' g' xr
    split at hp
    · rename_i hmt
      unfold hdRun at hp
      dsimp only at hp
      split at hp
      · rename_i hcalm
        refine ⟨true, hm c true hmt, fun _ a ha => ?_, fun z => by cases z⟩
        have R2 := R'.onEx (a := a) i c hcalm xr
        have hp := PS1.shift (g'.trans (go_ex i c fs)) hp
        exact (hsu a { cls := .ref (kap c), dict := d, data := .fields #[] } (.ref (kap c)) d [] ⟨rfl, rfl⟩ ⟨_, rfl⟩).s W0 F' H' _ _ _ _ R2 (off_ends (F0 := F) (H0 := H) (de1 := de) (O1 := O) hp)
      · exact hp.elim
    · rename_i hmt
      exact ⟨false, hm c false hmt, (fun z => by cases z), fun _ => ih hp F' H' sg' O' d R' g' xr⟩
    · exact hp.elim
end
end DL
set_option maxRecDepth 100000
set_option maxHeartbeats 2000000
set_option autoImplicit false
/-! repr of data at any depth -/
namespace DL
open PySem L2 PySem.Spec PyProof.Rows
def keyPy : Key → PyData
  | .inl i => .int i
  | .inr x => .str x
mutual
def toR : D → Option PyData
  | .non => some .none
  | .bl b => some (.bool b)
  | .int i => some (.int i)
  | .str s => some (.str s)
  | .tup xs => (toRs xs).map .tuple
  | .lst xs => (toRs xs).map .list
  | .dk kvs => (toRk kvs).map .dict
  | .dn _ => none
  | .scr _ => none
  | .obj _ _ => none
  | .cls _ => none
  | .fn _ _ => none
  | .any => none
def toRs : List D → Option (List PyData)
  | [] => some []
  | d :: r => (toR d).bind fun p => (toRs r).map fun ps => p :: ps
def toRk : List (Key × D) → Option (List (PyData × PyData))
  | [] => some []
  | (k, d) :: r => (toR d).bind fun p => (toRk r).map fun ps => (keyPy k, p) :: ps
end
/-- what repr tells -/
def reprD (d : D) : Option Str := (toR d).bind fun p => if p.showable = true ∧ p.shown.length ≤ 16777216 ∧ p.depth ≤ 100 then some p.shown else none
def fRepr : List D → Option D
  | [d] => (reprD d).map .str
  | _ => none
end DL
set_option maxRecDepth 100000
set_option maxHeartbeats 2000000
set_option autoImplicit false
/-! a call that only reads what is owned: its answer is a flat one -/
namespace DL
open PySem L2
def scal : D → Bool
  | .non => true
  | .bl _ => true
  | .int _ => true
  | .str _ => true
  | _ => false
def argB (de : DEnv) : List CA → Option (List D)
  | [] => some []
  | .v d :: r => (argB de r).map (d :: ·)
  | .s i :: r => (slotAt i de).bind fun d => (argB de r).map (d :: ·)
def flatO (de : DEnv) : Fo → Rs D
  | .ret d none => if scal d = true then .ok d de else .bad
  | _ => .bad
def callB (n : Nat) (m : List D → Fo) (dcs : List D) (cs : List CA) (de : DEnv) : Rs D := match argB de cs with
  | some ds => if ds.length + dcs.length = n then flatO de (m (ds ++ dcs)) else .bad
  | none => .bad
def wCallB (n : Nat) (m : List D → Fo) (dcs : List D) (ea : DEnv → Rs (List CA)) (de : DEnv) : Rs D := (ea de).bind fun cs de1 => callB n m dcs cs de1
end DL
set_option maxRecDepth 100000
set_option maxHeartbeats 2000000
set_option autoImplicit false
/-! enumerate of a tuple -/
namespace DL
open PySem L2 PySem.Spec PyProof.Rows
section
variable {prog : Program} {w : World} {A : Around} {E : Value → Shared → Prop} {s : Shared}
theorem nextT_item {it t : Addr} {i : Nat} {items : Array Value} {x : Value} {Q : Value → Shared → Prop} (hit : s.heap.IsTupleIter it t i) (ht : s.heap.IsTuple t items) (hx : items[i]? = some x)
    (hQ : ∀ h', h'.IsTupleIter it t (i + 1) → Heap.SameBut it s.heap h' → Q x { s with heap := h' }) : wpAny (model prog w) A (Builtin.SmallTypes.nextOf (.ref it)) Q E s := by
  obtain ⟨o, ho, hc, hd⟩ := id hit
  obtain ⟨ol, hol, _, nl, hdl⟩ := ht
  unfold Builtin.SmallTypes.nextOf
  refine wpAny_bind (wpAny_callSpecial?_slot (name := Str.ofString "__next__") hit.typeIs F.slot_tuple_iterator_next (wpAny_call_entry F.slot_tuple_iterator_next hit.typeIs F.entry_tuple_iterator_next ?_ (F.args_tuple_iterator_next_1 _)))
  show wpAny _ _ (field (.ref it) 0 >>= _) _ _ s
  refine wpAny_bind (wpAny_field ho hd (x := .ref t) rfl ?_)
  show wpAny _ _ (if (Value.ref t == Value.none) = true then _ else _) _ _ s
  rw [if_neg (by exact Bool.false_ne_true)]
  refine wpAny_bind (wpAny_field ho hd (x := .int i 0) rfl (wpAny_bind (wpAny_seqItems hol hdl ?_)))
  simp only [Int.toNat_natCast, hx]
  exact wpAny_bind (wpAny_setField ho hd (by simp) (wpAny_pure ⟨x, rfl, wpAny_pure (hQ _ ⟨_, Heap.get?_update_self _ ho (Obj.isFreed_of_fields (Obj.data_mapFields hd _)), (Obj.cls_mapFields ..).trans hc, by rw [Obj.data_mapFields hd]; simp [rawInt]⟩ (Heap.SameBut.update ..))⟩))
theorem nextT_end {it t : Addr} {i : Nat} {items : Array Value} {Q : Value → Shared → Prop} (hh : A.handled = none) (hit : s.heap.IsTupleIter it t i) (ht : s.heap.IsTuple t items) (hx : items[i]? = none)
    (hE : ∀ h' e, Heap.ExtBut it s.heap h' → (∃ o, h'.get? e = some o ∧ o.cls = .type "StopIteration") → E (.ref e) { s with heap := h' }) : wpAny (model prog w) A (Builtin.SmallTypes.nextOf (.ref it)) Q E s := by
  obtain ⟨o, ho, hc, hd⟩ := id hit
  obtain ⟨ol, hol, _, nl, hdl⟩ := ht
  unfold Builtin.SmallTypes.nextOf
  refine wpAny_bind (wpAny_callSpecial?_slot (name := Str.ofString "__next__") hit.typeIs F.slot_tuple_iterator_next (wpAny_call_entry F.slot_tuple_iterator_next hit.typeIs F.entry_tuple_iterator_next ?_ (F.args_tuple_iterator_next_1 _)))
  show wpAny _ _ (field (.ref it) 0 >>= _) _ _ s
  refine wpAny_bind (wpAny_field ho hd (x := .ref t) rfl ?_)
  show wpAny _ _ (if (Value.ref t == Value.none) = true then _ else _) _ _ s
  rw [if_neg (by exact Bool.false_ne_true)]
  refine wpAny_bind (wpAny_field ho hd (x := .int i 0) rfl (wpAny_bind (wpAny_seqItems hol hdl ?_)))
  simp only [Int.toNat_natCast, hx]
  refine wpAny_bind (wpAny_rule (wpAny_bind (wpAny_setField ho hd (by simp) ?_)))
  show wpAny _ _ (newExc (.type "StopIteration") [] >>= _) _ _ _
  refine wpAny_bind ?_
  simp only [newExc, newTuple]
  refine wpAny_bind (wpAny_newObj_type ?_ (by size_fits))
  refine wpAny_bind (m := firstArgMember _ _) (wpAny_of_eq (a := Value.none) (by first | rfl | (simp only [firstArgMember]; rfl)) ?_)
  refine wpAny_newObj_type ?_ (by size_fits)
  simp only [raiseNew]
  refine wpAny_bind (wpAny_handled ?_)
  first | rw [show A.in1.handled = none from hh] | rw [hh]
  exact wpAny_bind (wpAny_pure (wpAny_throw (hE _ _ (((Heap.SameBut.update ..).extBut.push _).push _) ⟨_, Heap.get?_push_size _ rfl, rfl⟩)))
end
theorem drawsT {prog : Program} {w : World} {A : Around} (hh : A.handled = none) (it t : Addr) (hne : t ≠ it) (items : Array Value) :
    Draws prog w A it [it, t] items.size (fun i v => items[i]? = some v) (fun i h => h.IsTupleIter it t i ∧ h.IsTuple t items) where
  live := fun _ _ st => let ⟨o, ho, _⟩ := st.1; ⟨o, ho⟩
  frame := fun _ _ _ st hk => ⟨st.1.at fun o e => hk it (by simp) o e, let ⟨o, ho, r⟩ := st.2; ⟨o, hk t (by simp) o ho, r⟩⟩
  item := fun i s Q E hi st hQ => nextT_item st.1 st.2 (x := items[i]) (by simp [hi]) fun h' hit' hs' => hQ _ h' s.toks (by simp [hi]) ⟨hit', let ⟨o, ho, r⟩ := st.2; ⟨o, (hs'.2 t hne).trans ho, r⟩⟩ hs'
  done := fun s Q E st hE => nextT_end hh st.1 st.2 (by simp) hE
theorem drawsT_end {prog : Program} {w : World} {A : Around} (hh : A.handled = none) (it t : Addr) (i : Nat) (items : Array Value) (hi : items[i]? = none) :
    Draws prog w A it [it, t] 0 (fun _ _ => True) (fun _ h => h.IsTupleIter it t i ∧ h.IsTuple t items) where
  live := fun _ _ st => let ⟨o, ho, _⟩ := st.1; ⟨o, ho⟩
  frame := fun _ _ _ st hk => ⟨st.1.at fun o e => hk it (by simp) o e, let ⟨o, ho, r⟩ := st.2; ⟨o, hk t (by simp) o ho, r⟩⟩
  item := fun _ _ _ _ h => absurd h (Nat.not_lt_zero _)
  done := fun s Q E st hE => nextT_end hh st.1 st.2 hi hE
theorem enumT_new (t : Addr) (items : Array Value) (n : Nat) (dct : Option Addr) (sl : Array (Option Value)) :
    Meets (Builtin.«enumerate.__new__» ⟨[.type "enumerate", .ref t], []⟩) (fun _ R s => s.heap.get? t = some { cls := .type "tuple", dict := dct, data := .seq items n, slots := sl } ∧
      R (.ok (.ret (.ref (s.heap.push { cls := .type "tuple_iterator", data := .fields #[.ref t, .int 0 0] }).objs.size)))
        { s with heap := (s.heap.push { cls := .type "tuple_iterator", data := .fields #[.ref t, .int 0 0] }).push { cls := .type "enumerate", data := .fields #[.none, .bool false, .ref s.heap.objs.size, rawInt 0, .none, .none] } }) :=
  .of_wp fun prog w A R s h => by
    obtain ⟨hp, g, d, tk, os⟩ := s; obtain ⟨hl, h⟩ := h
    have hsub := sub_enumerate
    have hL : Heap.IsTuple (Shared.heap ⟨hp, g, d, tk, os⟩) t items := ⟨_, hl, rfl, n, rfl⟩
    wp_walk using wpAny_loadPart' hl
    refine wpAny_stack_any fun st => wpAny_pure ?_
    split
    · rename_i c _ _ _ _ _
      cases (c == Value.type "enumerate")
      · wp_walk using wpAny_loadPart' hl, wpAny_pyIter_tuple hL
        exact ⟨_, rfl, h⟩
      · wp_walk using wpAny_loadPart' hl, wpAny_pyIter_tuple hL
        exact ⟨_, rfl, h⟩
    · wp_walk using wpAny_loadPart' hl, wpAny_pyIter_tuple hL
      exact ⟨_, rfl, h⟩
theorem call_enumT {prog : Program} {w : World} {A : Around} {E : Value → Shared → Prop} {s : Shared} {t : Addr} {items : Array Value} {Q : Value → Shared → Prop} (hL : s.heap.IsTuple t items)
    (h : ∀ h', IsEnum h' (s.heap.objs.size + 1) s.heap.objs.size 0 .none → h'.IsTupleIter s.heap.objs.size t 0 → h'.objs.size = s.heap.objs.size + 2 → (∀ b o, s.heap.get? b = some o → h'.get? b = some o) → Q (.ref (s.heap.objs.size + 1)) { s with heap := h' }) :
    wpAny (model prog w) A (call (.type "enumerate") [.ref t]) Q E s := by
  obtain ⟨⟨c, dct, dt, sl⟩, hl, hc, n, hd⟩ := hL
  replace hc : c = .type "tuple" := hc
  replace hd : dt = .seq items n := hd
  subst hc hd
  refine callType_new F.called_enumerate (by decide) (F.typeCall_enumerate_1 _) (F.newCall_enumerate_1 _) (fun obj => F.args_object_init_2 obj _) F.entry_enumerate_new (enumT_new t items n dct sl) ⟨hl, ?_⟩
  have hz : (s.heap.push { cls := .type "tuple_iterator", data := .fields #[.ref t, .int 0 0] }).objs.size = s.heap.objs.size + 1 := Heap.size_push ..
  show _ ∧ _
  rw [hz]
  have he : IsEnum ((s.heap.push { cls := .type "tuple_iterator", data := .fields #[.ref t, .int 0 0] }).push { cls := .type "enumerate", data := .fields #[.none, .bool false, .ref s.heap.objs.size, rawInt 0, .none, .none] }) (s.heap.objs.size + 1) s.heap.objs.size 0 .none := by
    have := Heap.get?_push_size (s.heap.push { cls := .type "tuple_iterator", data := .fields #[.ref t, .int 0 0] }) (o := { cls := .type "enumerate", data := .fields #[.none, .bool false, .ref s.heap.objs.size, rawInt 0, .none, .none] }) rfl
    rw [hz] at this; exact this
  exact ⟨⟨_, he, rfl⟩, h _ he ⟨_, Heap.get?_push_of_some _ (Heap.get?_push_size _ rfl), rfl, rfl⟩ (by rw [Heap.size_push, hz]) fun b o x => Heap.get?_push_of_some _ (Heap.get?_push_of_some _ x)⟩
/-- the tuple at a, each item in a new pair -/
def IteT (K : PySem.W.Frag) (a : Addr) : It :=
  ⟨fun i H => ∃ (xs : List V) (x : V), SqT K H a xs ∧ xs[i]? = some x, fun i H v H' => ∃ T x, v = .ref T ∧ H T = none ∧ H' = upd H T (.tup [.int (i : Nat), x]) ∧ ∀ xs, SqT K H a xs → xs[i]? = some x, fun i H => ∃ xs : List V, SqT K H a xs ∧ xs.length ≤ i⟩
theorem turn_enumT {P : Program} {w : World} {K : PySem.W.Frag} {elts : List Expr} {kk : Nat} {tpos : Pos} (a e it : Addr) :
    Turn P w K (.Tuple elts kk tpos) (IteT K a) [e, it] e (fun i h => (∃ old, IsEnum h e it ((i : Nat) : Int) old) ∧ h.IsTupleIter it a i ∧ e ≠ it) where
  mem := by simp
  obj := fun i h st b hb => by
    obtain ⟨⟨old, he⟩, ⟨o, ho, hc, hd⟩, _⟩ := st
    have e' : b = e ∨ b = it := by simpa using hb
    rcases e' with z | z
    · rw [z]; exact ⟨_, he, fun v q => nomatch q⟩
    · rw [z]; exact ⟨o, ho, fun v q => by rw [hd] at q; cases q⟩
  keep := fun i h h' st k => let ⟨⟨old, he⟩, hi, hne⟩ := st; ⟨⟨old, k e (by simp) _ he⟩, hi.at fun o q => k it (by simp) o q, hne⟩
  item := by
    intro X hP hw hK hc i pins s σ H E I hf st hg
    subst hP hw hK
    obtain ⟨⟨old, he⟩, hit, hne⟩ := st
    obtain ⟨xs, x, hq, hx⟩ := hg
    obtain ⟨its, rv, p, hz⟩ := I.tuple hq
    obtain ⟨u, hu, ru⟩ := rv.get hx
    have hel : e < s.heap.objs.size := Heap.lt_size he
    have hil : it < s.heap.objs.size := by obtain ⟨_, q, _⟩ := hit; exact Heap.lt_size q
    have ht : s.heap.IsTuple a its.toArray := p
    have hai : a ≠ it := fun z => by
      obtain ⟨o, h1, h2, h3⟩ := hit
      obtain ⟨o', h4, h5, n, h6⟩ := ht
      rw [z, h1] at h4
      cases h4
      rw [h3] at h6
      cases h6
    have hae : e ≠ a := fun z => by
      obtain ⟨o', h4, h5, n, h6⟩ := ht
      rw [← z, he] at h4
      cases h4
      cases h6
    have hil2 : i < its.toArray.size := by have := (List.getElem?_eq_some_iff.mp hu).1; simpa using this
    refine wpAny_pyNext_enum_itemD (drawsT (A := X.A.in1) (I.ok.hd hc) it a hai its.toArray) he ⟨hit, ht⟩ hil2 hne (by simp [hne, hae]) fun y h' tk hy ho hit' hT hsz hk => ?_
    have hyu : y = u := by
      have : its[i]? = some y := by simpa using hy
      rw [hu] at this
      cases this
      rfl
    subst hyu
    refine ⟨_, rfl, wpAny_letOwnedTupleGo_enum (s := { s with heap := h', toks := tk + 1 }) ho fun h'' he' sb => ?_⟩
    have hT2 : h''.get? s.heap.objs.size = some { cls := .type "tuple", data := .seq #[.int i tk, y] } := (sb.2 _ (Nat.ne_of_gt hel)).trans hT
    have new : ObjOk X.prog X.w (upd H s.heap.objs.size (.tup [.int (i : Nat), x])) h'' s.heap.objs.size (.tup [.int (i : Nat), x]) :=
      ⟨by show 2 ≤ sizeLine; decide, [.int i tk, y], .cons ⟨_, rfl⟩ (.cons ru .nil), ⟨_, hT2, rfl, _, rfl⟩⟩
    have I1 : Inv X pins σ (upd H s.heap.objs.size (.tup [.int (i : Nat), x])) { s with heap := h'', toks := tk + 1 } :=
      I.turnedNew (ch := [e, it]) (fun b ob hb q => (sb.2 b (fun z => hb (by simp [z]))).trans (hk b ob (fun z => hb (by simp [z])) (fun z => hb (by simp [z])) q)) hf (Nat.le_refl _) new
    refine ⟨.ref s.heap.objs.size, _, I1, rfl, ⟨_, x, rfl, I.hok.fresh (Nat.le_refl _), rfl, fun ys hy => by rw [I.tuple_inj hy hq]; exact hx⟩, ⟨⟨y, ?_⟩, hit'.1.at fun o q => (sb.2 it (Ne.symm hne)).trans q, hne⟩, fun b hb => ?_⟩
    · have e1 : ((i + 1 : Nat) : Int) = (i : Int) + 1 := by omega
      rw [e1]; exact he'
    · have hb' : b < s.heap.objs.size := by
        have e' : b = e ∨ b = it := by simpa using hb
        rcases e' with z | z
        · rw [z]; exact hel
        · rw [z]; exact hil
      rw [upd_ne (Nat.ne_of_lt hb')]
      exact (hf b hb).1
  done := by
    intro X hP hw hK hc i pins s σ H E I hf st hg
    subst hP hw hK
    obtain ⟨⟨old, he⟩, hit, hne⟩ := st
    obtain ⟨xs, hq, hx⟩ := hg
    obtain ⟨its, rv, p, hz⟩ := I.tuple hq
    obtain ⟨f0, f1, f2, f3, f4, f5⟩ := hf it (by simp)
    have hl := rv.length
    have ht : s.heap.IsTuple a its.toArray := p
    exact wpAny_pyNext_enum_endD (drawsT_end (A := X.A.in1) (I.ok.hd hc) it a i its.toArray (by simp; omega)) he ⟨hit, ht⟩ fun h' eb => ⟨rfl, I.turned (t' := s.toks) (fun b o hb q => eb b o hb q) f0 f1 f3 f4 f5⟩
  self := fun A i s Q E st h => let ⟨⟨_, he⟩, _⟩ := st; wpAny_pyIter_enum he h
def iEnumA (K : PySem.W.Frag) (ta : TA) : TI := fun σ H R => ta σ H fun vs H1 => ∃ a, vs = [.ref a] ∧ (((∃ xs, SqL K H1 a xs) ∧ R (Ite K a) H1) ∨ ((∃ xs, SqT K H1 a xs) ∧ R (IteT K a) H1))
theorem pi_enumA {X : Cx} {e : Expr} {ta : TA} {p pos tpos : Pos} {elts : List Expr} {kk : Nat} (hg : Gl X "enumerate") (hm : X.mg "enumerate" = none) (ha : PA X [e] ta) (hs : starEach [e] X.env = [(false, eval e X.env)] := by rfl) :
    PI X (.Tuple elts kk tpos) (.Call (.Name "enumerate" p) [e] [] pos) (iEnumA X.K ta) := by
  refine ⟨fun pins s σ H R I h => ?_⟩
  refine Call_ (ld_blt I hg hm boot_enumerate (PyProof.Rows.callWith_type1 (thn (ha.run pos pins s σ H _ I h) fun us s1 ⟨vs, H1, I1, r1, a, ea, q⟩ => ?_) hs rfl))
  subst ea
  cases r1 with
  | cons r rr =>
    cases rr
    cases r
    have fin : ∀ {h' : Heap}, (∀ b o, s1.heap.get? b = some o → h'.get? b = some o) → ∀ b ∈ [s1.heap.objs.size + 1, s1.heap.objs.size], _ := fun {h'} hk b hb => by
      have e' : b = s1.heap.objs.size + 1 ∨ b = s1.heap.objs.size := by simpa using hb
      have hle : s1.heap.objs.size ≤ b := by
        rcases e' with z | z
        · rw [z]; exact Nat.le_add_right _ _
        · rw [z]; exact Nat.le_refl _
      exact I1.fpOk hle (I1.hok.fresh hle)
    rcases q with ⟨⟨xs, hq⟩, q⟩ | ⟨⟨xs, hq⟩, q⟩
    · obtain ⟨its, rv, p', hz⟩ := I1.list hq
      refine call_enumerate_list p'.isList fun h' he hit hsz hk => wpAny_pyIter_enum he ?_
      exact ⟨s1.heap.objs.size + 1, [s1.heap.objs.size + 1, s1.heap.objs.size], _, _, H1, rfl, I1.kept (t' := s1.toks) hk, turn_enum a (s1.heap.objs.size + 1) s1.heap.objs.size, ⟨⟨.none, he⟩, hit, Nat.succ_ne_self _⟩, fin hk, q⟩
    · obtain ⟨its, rv, p', hz⟩ := I1.tuple hq
      refine call_enumT (show s1.heap.IsTuple a its.toArray from p') fun h' he hit hsz hk => wpAny_pyIter_enum he ?_
      exact ⟨s1.heap.objs.size + 1, [s1.heap.objs.size + 1, s1.heap.objs.size], _, _, H1, rfl, I1.kept (t' := s1.toks) hk, turn_enumT a (s1.heap.objs.size + 1) s1.heap.objs.size, ⟨⟨.none, he⟩, hit, Nat.succ_ne_self _⟩, fin hk, q⟩
section
variable {K : PySem.W.Frag} {kap : Kp} {xi : Xi} {F : Hp} {a : Addr} {vs : List V} {ds : List D}
theorem iteT_ok (h : SqT K F a vs) (r : Reps K kap F vs ds) : ItOk K kap (IteT K a) F (enumD 0 ds) := fun i F2 H2 e1 e2 => by
  have h2 : SqT K H2 a vs := sqT_mono (e1.trans e2) h
  refine ⟨fun hl => ⟨vs, h2, by rw [r.length]; rw [enumD_len] at hl; exact hl⟩, fun d hd => ?_⟩
  rw [enumD_get] at hd
  obtain ⟨d', q1, q2⟩ := Option.map_eq_some_iff.mp hd
  obtain ⟨v, g1, g2⟩ := r.get q1
  refine ⟨⟨vs, v, h2, g1⟩, fun x H' ⟨T, x', ex, hT, eH, y⟩ => ?_⟩
  subst ex eH q2
  have := y vs h2
  rw [g1] at this
  cases this
  obtain ⟨n, s⟩ := New.one (o := .tup [.int (i : Nat), v]) e2 hT
  exact ⟨_, n, s, .tup (SqT.of upd_same) (.cons (by simpa using Rep.int _) (.cons ((g2.mono e1).mono n.f) .nil))⟩
end
def vEnumS (ev : DEnv → Rs D) (de : DEnv) : Rs (List D) := (ev de).bind fun d de1 => ofO ((itemsOf d).map (enumD 0)) de1
theorem jiEnumS {kap : Kp} {xi : Xi} {X : Cx} {W : WX} {e : Expr} {t : WX → TE} {ev : DEnv → Rs D} {p pos tpos : Pos} {elts : List Expr} {kk : Nat} (hm : X.mg "enumerate" = none) (h : JE kap xi X W e t ev) (hg : Gl X "enumerate" := by rfl) (hs : starEach [e] X.env = [(false, eval e X.env)] := by rfl) :
    JI kap xi X W (.Tuple elts kk tpos) (.Call (.Name "enumerate" p) [e] [] pos) (fun W => iEnumA X.K (tCons (t W) tNil)) (vEnumS ev) := ⟨pi_enumA hg hm (pa_cons h.p pa_nil hs) hs, by
  intro W F H sg de O Q R hp
  refine h.s.bind R hp fun v d F1 H1 de1 O1 R1 g1 r _ hp => ?_
  obtain ⟨ds, e, hp⟩ := ofO_some hp
  obtain ⟨ds', e1, rfl⟩ := Option.map_eq_some_iff.mp e
  obtain ⟨a, vs, rfl, rr, hq⟩ := rep_items r e1
  refine ⟨a, rfl, ?_⟩
  rcases hq with hq | hq
  · exact .inl ⟨⟨vs, sqL_mono R1.sub hq⟩, hp.done R1 New.refl R1.sub (ite_ok hq rr)⟩
  · exact .inr ⟨⟨vs, sqT_mono R1.sub hq⟩, hp.done R1 New.refl R1.sub (iteT_ok hq rr)⟩⟩
end DL
set_option maxRecDepth 100000
set_option maxHeartbeats 2000000
set_option autoImplicit false
/-! o.m(k = v, ..): only the receiver by place -/
namespace DL
open PySem L2 PySem.Spec PyProof.Rows
def wMethK (c : Nat) (nm : Str) (n : Nat) (mu : Option Nat) (m : List D → Fo) (ar : List D → List D → List D) (ev : DEnv → Rs D) (ek : DEnv → Rs (List D)) (de : DEnv) : Rs D :=
  (ev de).bind fun d de1 => if isOb c nm d = true then (ek de1).bind fun zs de2 => callC n mu m [] (.v d :: (ar [] zs).map CA.v) de2 else .bad
/-! ### // by anything but 0 -/
def cDivG (_ j : Int) : Bool := decide (j ≠ 0) && decide (j.natAbs < 2 ^ 8000)
def fFdivG : D → D → Option D := fIC cDivG fun i j => .int (i.fdiv j)
end DL
set_option maxRecDepth 100000
set_option maxHeartbeats 2000000
set_option autoImplicit false
/-! f(g(..), ..): a fresh thing is handed to a parameter that f changes, and dropped -/
namespace DL
open PySem L2 PySem.Spec PyProof.Rows
def callT (de : DEnv) : Fo → Rs D
  | .ret d _ => .ok d de
  | .retF d _ => .ok d de
  | .ex c fs _ => .ex c fs de
  | .bad => .bad
def wCallT (n : Nat) (m : List D → Fo) (dcs : List D) (ev : DEnv → Rs D) (ea : DEnv → Rs (List CA)) (de : DEnv) : Rs D :=
  (ev de).bind fun d de1 => (ea de1).bind fun cs de2 => match argD none cs de2 with
    | some ds => if (d :: ds).length + dcs.length = n then callT de2 (m ((d :: ds) ++ dcs)) else .bad
    | none => .bad
end DL
set_option maxRecDepth 100000
set_option maxHeartbeats 2000000
set_option autoImplicit false
/-! [e for t in l if c for u in k if d] -/
namespace DL
open PySem L2 PySem.Spec PyProof.Rows
def lcGo2 (vs vs1 : List Nat) (g : D → DEnv → Option DEnv) (tt : DEnv → Rs Bool) (ei1 : DEnv → Rs (List D)) (g1 : D → DEnv → Option DEnv) (tt1 : DEnv → Rs Bool) (te : DEnv → Rs D) : List D → DEnv → Option (List D × DEnv)
  | [], de => some ([], de)
  | d :: r, de => (g d de).bind fun de1 => match tt de1 with
    | .ok true de2 => (match ei1 de2 with
      | .ok ds1 de3 => (lcGo vs1 g1 tt1 te ds1 (wipeD de3 vs1)).bind fun p => (lcGo2 vs vs1 g tt ei1 g1 tt1 te r (wipeD p.2 vs)).map fun q => (p.1 ++ q.1, q.2)
      | _ => none)
    | .ok false de2 => lcGo2 vs vs1 g tt ei1 g1 tt1 te r (wipeD de2 vs)
    | _ => none
def vLc2 (vs vs1 : List Nat) (ei : DEnv → Rs (List D)) (g : D → DEnv → Option DEnv) (tt : DEnv → Rs Bool) (ei1 : DEnv → Rs (List D)) (g1 : D → DEnv → Option DEnv) (tt1 : DEnv → Rs Bool) (te : DEnv → Rs D) (de : DEnv) : Rs D :=
  (ei de).bind fun ds de1 => if plainAt de1 vs = true then (match lcGo2 vs vs1 g tt ei1 g1 tt1 te ds (wipeD de1 vs) with
    | some (xs, de2) => if xs.length ≤ 16777216 then .ok (.lst xs) (restD de1 vs de2) else .bad
    | none => .bad) else .bad
end DL
set_option maxRecDepth 100000
set_option maxHeartbeats 2000000
set_option autoImplicit false
/-! == and != of a class with its own __eq__ -/
namespace DL
open PySem L2 PySem.Spec PyProof.Rows
def fOwn (cs : List Nat) (c : Nat) (m : List D → Fo) (a b : D) : Option D := match a with
  | .obj c' _ => if c' = c then (tyOf b).bind fun s => if (tyIn cs s || tyN s) = true then (match m [a, b] with
    | .ret d none => if scal d = true then some d else none
    | _ => none) else none else none
  | _ => none
/-! ### != by the own __eq__ -/
def fNegB : Option D → Option D
  | some (.bl b) => some (.bl (!b))
  | _ => none
def fOwnNe (cs : List Nat) (c : Nat) (m : List D → Fo) (a b : D) : Option D := fNegB (fOwn cs c m a b)
def fEqA (cs : List Nat) (c : Nat) (m : List D → Fo) (a b : D) : Option D := match a with
  | .obj _ _ => fOwn cs c m a b
  | _ => fEq a b
def fNeA (cs : List Nat) (c : Nat) (m : List D → Fo) (a b : D) : Option D := match a with
  | .obj _ _ => fOwnNe cs c m a b
  | _ => fNe a b
theorem RoomG.in1 {k : Nat} {A : Around} (r : RoomG (k + 1) A) : RoomG k A.in1 := ⟨r.r.in1, r.g⟩
end DL
set_option maxRecDepth 100000
set_option maxHeartbeats 2000000
set_option autoImplicit false
/-! dicts with nested keys as data: d[k], k in d, d[k] = v, for k in d; an own __getitem__ -/
namespace DL
open PySem L2 PySem.Spec PyProof.Rows
section
variable {K : PySem.W.Frag} {kap : Kp} {F H : Hp}
mutual
theorem ka_rep (e : Same F H) : ∀ {v : V} {d : D} {k : NestedKey}, Rep K kap F v d → keyD d = some k → KA K H k v
  | _, _, _, .non, h => by cases h; exact .none
  | _, _, _, .bl b, h => by cases h; exact .bl b
  | _, _, _, .int i, h => by cases h; exact .int i
  | _, _, _, .str _, h => by cases h
  | _, _, _, .tup a r, h => by
    obtain ⟨ks, h1, rfl⟩ := Option.map_eq_some_iff.mp h
    exact .tup (sqT_mono e a) (kas_rep e r h1)
  | _, _, _, .lst _ _, h => by cases h
  | _, _, _, .scr _ _, h => by cases h
  | _, _, _, .dk _ _ _, h => by cases h
  | _, _, _, .dn _ _ _ _ _ _ _, h => by cases h
  | _, _, _, .obj _ _ _, h => by cases h
  | _, _, _, .clsB _, h => by cases h
  | _, _, _, .clsO _, h => by cases h
  | _, _, _, .any _, h => by cases h
  | _, _, _, .fn _ _ _ _ _, h => by cases h
theorem kas_rep (e : Same F H) : ∀ {vs : List V} {ds : List D} {ks : List NestedKey}, Reps K kap F vs ds → keyDs ds = some ks → KAs K H ks vs
  | _, _, _, .nil, h => by cases h; exact .nil
  | _, _, _, .cons a r, h => by
    obtain ⟨k, h1, h2⟩ := bind_some h
    obtain ⟨ks, h3, rfl⟩ := Option.map_eq_some_iff.mp h2
    exact .cons (ka_rep e a h1) (kas_rep e r h3)
end
theorem keyN_inv {d : D} {k : NestedKey} (h : keyN d = some k) : ∃ ds ks, d = .tup ds ∧ keyDs ds = some ks ∧ k = .tup ks ∧ okK k = true := by
  unfold keyN at h
  split at h
  · rename_i ds
    obtain ⟨ks, h1, h2⟩ := bind_some h
    split at h2
    · rename_i ok
      cases h2
      exact ⟨ds, ks, rfl, h1, rfl, ok⟩
    · cases h2
  · cases h
theorem keyN_rep (e : Same F H) {v : V} {d : D} {k : NestedKey} (r : Rep K kap F v d) (h : keyN d = some k) : ∃ b, v = .ref b ∧ KA K H k (.ref b) ∧ okK k = true := by
  obtain ⟨ds, ks, rfl, h1, rfl, ok⟩ := keyN_inv h
  cases r with
  | tup a q => exact ⟨_, rfl, .tup (sqT_mono e a) (kas_rep e q h1), ok⟩
theorem keyN_rb (e : Same F H) {v : V} {d : D} {k : NestedKey} (r : RB K kap F H v d) (h : keyN d = some k) : ∃ b, v = .ref b ∧ KA K H k (.ref b) ∧ okK k = true := by
  obtain ⟨ds, ks, rfl, h1, rfl, ok⟩ := keyN_inv h
  obtain ⟨p, vs, rfl, h2, h3⟩ := r.tup
  exact ⟨_, rfl, .tup (sqT_mono e h2) (kas_rep e h3 h1), ok⟩
theorem keys_rep (e : Same F H) : ∀ {xs : List NEnt} {ds : List (D × D)}, (xs.map fun x => some x.1) = ds.map (fun p => keyN p.1) → Reps K kap F (xs.map fun x => V.ref x.2.1) (ds.map (·.1)) → KeysA K H xs
  | [], [], _, _ => fun _ h => (nomatch h)
  | [], _ :: _, h, _ => by simp at h
  | _ :: _, [], h, _ => by simp at h
  | x :: xs, p :: ds, h, .cons r q => by
    simp only [List.map_cons, List.cons.injEq] at h
    intro y hy
    rcases List.mem_cons.mp hy with rfl | hy
    · obtain ⟨b, e1, e2, _⟩ := keyN_rep e r h.1.symm
      cases e1
      exact e2
    · exact keys_rep e h.2 q y hy
/-- what stands at a key -/
def valN : List (D × D) → NestedKey → Option D
  | [], _ => none
  | p :: r, k => if keyN p.1 = some k then some p.2 else valN r k
theorem valN_at : ∀ {xs : List NEnt} {vs : List V} {ds : List (D × D)}, Vals vs (xs.map (·.2.2)) → (xs.map fun x => some x.1) = ds.map (fun p => keyN p.1) → Reps K kap F vs (ds.map (·.2)) → ∀ k : NestedKey,
    (∀ z, valN ds k = some z → ∃ p v, atKey xs k = some p ∧ RelV v p.2 ∧ Rep K kap F v z) ∧ (valN ds k = none → atKey xs k = none)
  | [], _, [], _, _, _, k => ⟨(fun z h => by cases h), (fun _ => rfl)⟩
  | [], _, _ :: _, _, h, _, _ => by simp at h
  | _ :: _, _, [], _, h, _, _ => by simp at h
  | x :: xs, v :: vs, p :: ds, .cons rv qv, h, .cons r q, k => by
    simp only [List.map_cons, List.cons.injEq] at h
    by_cases e : x.1 = k
    · have e1 : keyN p.1 = some k := by rw [← h.1, e]
      have ha : atKey (x :: xs) k = some x.2 := by simp [atKey, e]
      refine ⟨fun z hz => ?_, fun hz => ?_⟩
      · unfold valN at hz
        rw [if_pos e1] at hz
        cases hz
        exact ⟨_, v, ha, rv, r⟩
      · unfold valN at hz
        rw [if_pos e1] at hz
        cases hz
    · have e1 : ¬ keyN p.1 = some k := by rw [← h.1]; exact fun z => e (Option.some.inj z)
      have ha : atKey (x :: xs) k = atKey xs k := by simp [atKey, e]
      obtain ⟨i1, i2⟩ := valN_at qv h.2 q k
      unfold valN
      rw [if_neg e1, ha]
      exact ⟨i1, i2⟩
theorem valN_some {xs : List NEnt} {vs : List V} {ds : List (D × D)} (h1 : Vals vs (xs.map (·.2.2))) (h2 : (xs.map fun x => some x.1) = ds.map (fun p => keyN p.1)) (h3 : Reps K kap F vs (ds.map (·.2))) (k : NestedKey) : (atKey xs k).isSome = (valN ds k).isSome := by
  obtain ⟨i1, i2⟩ := valN_at h1 h2 h3 k
  cases e : valN ds k with
  | none => rw [i2 e]; rfl
  | some z =>
    obtain ⟨p, v, h, _⟩ := i1 z e
    rw [h]
    rfl
/-- d[k] = v -/
def putN : List (D × D) → NestedKey → D → D → List (D × D)
  | [], _, kd, v => [(kd, v)]
  | p :: r, k, kd, v => if keyN p.1 = some k then (p.1, v) :: r else p :: putN r k kd v
def stH : List NEnt → NestedKey → Addr → Value → List NEnt
  | [], k, b, u => [(k, b, u)]
  | x :: r, k, b, u => if x.1 = k then (x.1, x.2.1, u) :: r else x :: stH r k b u
theorem storedH_eq (k : NestedKey) (b : Addr) (u : Value) : ∀ {xs : List NEnt}, (xs.map (·.1)).Nodup → storedH xs k b u = stH xs k b u
  | [], _ => rfl
  | x :: xs, hn => by
    rw [List.map_cons, List.nodup_cons] at hn
    have ih := storedH_eq k b u hn.2
    unfold stH
    by_cases e : x.1 = k
    · rw [if_pos e]
      have ha : atKey (x :: xs) k = some x.2 := by simp [atKey, e]
      rw [storedH_old ha, List.map_cons, map_putAt_of_not_mem xs k u (e ▸ hn.1)]
      unfold putAt
      rw [if_pos e]
    · rw [if_neg e, ← ih]
      have ha : atKey (x :: xs) k = atKey xs k := by simp [atKey, e]
      unfold storedH
      rw [ha]
      split
      · rw [List.map_cons]
        congr 1
        unfold putAt
        rw [if_neg e]
      · rfl
theorem put_at {b : Addr} {u : Value} {v : V} {kd z : D} {k : NestedKey} (hk : Rep K kap F (.ref b) kd) (hkd : keyN kd = some k) (ru : RelV v u) (hz : Rep K kap F v z) : ∀ {xs : List NEnt} {vs : List V} {ds : List (D × D)}, Vals vs (xs.map (·.2.2)) → (xs.map fun x => some x.1) = ds.map (fun p => keyN p.1) → Reps K kap F (xs.map fun x => V.ref x.2.1) (ds.map (·.1)) → Reps K kap F vs (ds.map (·.2)) →
    ∃ ws, Vals ws ((stH xs k b u).map (·.2.2)) ∧ ((stH xs k b u).map fun x => some x.1) = (putN ds k kd z).map (fun p => keyN p.1) ∧ Reps K kap F ((stH xs k b u).map fun x => V.ref x.2.1) ((putN ds k kd z).map (·.1)) ∧ Reps K kap F ws ((putN ds k kd z).map (·.2))
  | [], _, [], _, _, _, _ => ⟨[v], .cons ru .nil, by simp [stH, putN, hkd], .cons hk .nil, .cons hz .nil⟩
  | [], _, _ :: _, _, h, _, _ => by simp at h
  | _ :: _, _, [], _, h, _, _ => by simp at h
  | x :: xs, w :: vs, p :: ds, .cons rv qv, h, .cons r0 q0, .cons r q => by
    simp only [List.map_cons, List.cons.injEq] at h
    unfold stH putN
    by_cases e : x.1 = k
    · have e1 : keyN p.1 = some k := by rw [← h.1, e]
      rw [if_pos e, if_pos e1]
      exact ⟨v :: vs, .cons ru qv, by simp [h.1, h.2], .cons r0 q0, .cons hz q⟩
    · have e1 : ¬ keyN p.1 = some k := by rw [← h.1]; exact fun z => e (Option.some.inj z)
      rw [if_neg e, if_neg e1]
      obtain ⟨ws, w1, w2, w3, w4⟩ := put_at hk hkd ru hz qv h.2 q0 q
      exact ⟨w :: ws, .cons rv w1, by simp [h.1, w2], .cons r0 w3, .cons r w4⟩
theorem putN_len (ds : List (D × D)) (k : NestedKey) (kd v : D) : (putN ds k kd v).length ≤ ds.length + 1 := by
  induction ds with
  | nil => simp [putN]
  | cons p r ih => unfold putN; split <;> simp <;> omega
/-! ### d[k] -/
def fIxN (a b : D) : Option D := match a with
  | .dn ds => (keyN b).bind fun k => valN ds k
  | _ => fIx a b
def rIxA (K : PySem.W.Frag) : R2 := fun x y H Q => rIx K x y H Q ∨ rIxN K x y H Q
theorem sp_ixN : SP2 K kap (rIxA K) fIxN := by
  intro F H x y a b z Q sub nt ra rb e q
  unfold fIxN at e
  split at e
  · rename_i ds
    obtain ⟨k, e1, e2⟩ := bind_some e
    obtain ⟨p, o, xs, vs, rfl, h1, h2, h3, h4, h5, h6, h7⟩ := ra.dn sub
    obtain ⟨c, rfl, k1, ok⟩ := keyN_rb sub rb e1
    obtain ⟨pp, v, g1, g2, g3⟩ := (valN_at h4 h5 h7 k).1 z e2
    exact .inr ⟨p, c, o, xs, k, pp, v, rfl, rfl, h1, h2, keys_rep sub h5 h6, k1, ok, g1, g2, q _ F H New.refl sub g3⟩
  · exact .inl (sp_ix F H x y a b z Q sub nt ra rb e q)
/-! ### k in d -/
def entN : D → Option (List (D × D))
  | .dn ds => some ds
  | .dk [] => some []
  | _ => none
def fInN (a b : D) : Option D := match entN b with
  | some ds => (keyN a).map fun k => .bl (valN ds k).isSome
  | none => fIn a b
def fNotInN (a b : D) : Option D := match entN b with
  | some ds => (keyN a).map fun k => .bl (!(valN ds k).isSome)
  | none => fNotIn a b
theorem entN_at (e : Same F H) {v : V} {d : D} {ds : List (D × D)} (r : RB K kap F H v d) (h : entN d = some ds) : ∃ a xs vs, v = .ref a ∧ DAt K H a xs ∧ Vals vs (xs.map (·.2.2)) ∧ (xs.map fun x => some x.1) = ds.map (fun p => keyN p.1) ∧ Reps K kap F (xs.map fun x => V.ref x.2.1) (ds.map (·.1)) ∧ Reps K kap F vs (ds.map (·.2)) := by
  unfold entN at h
  split at h
  · cases h
    obtain ⟨p, o, xs, vs, rfl, h1, h2, h3, h4, h5, h6, h7⟩ := r.dn e
    exact ⟨p, xs, vs, rfl, .inr ⟨o, h1, h2, h3, keys_rep e h5 h6⟩, h4, h5, h6, h7⟩
  · cases h
    obtain ⟨p, kvs, rfl, h1, n1, r1⟩ := r.dk e
    have : kvs = [] := by cases kvs with | nil => rfl | cons _ _ => simp at n1
    subst this
    exact ⟨p, [], [], rfl, .inl ⟨h1, rfl⟩, .nil, rfl, .nil, .nil⟩
  · cases h
def rInG (K : PySem.W.Frag) : R2 := fun x y H Q => rInD K x y H Q ∨ rInN K (fun b => b) x y H Q
def rNotInG (K : PySem.W.Frag) : R2 := fun x y H Q => rNotInD K x y H Q ∨ rInN K not x y H Q
theorem sp_inN : SP2 K kap (rInG K) fInN := by
  intro F H x y a b z Q sub nt ra rb e q
  unfold fInN at e
  split at e
  · rename_i ds hd
    obtain ⟨k, e1, rfl⟩ := Option.map_eq_some_iff.mp e
    obtain ⟨p, xs, vs, rfl, h1, h4, h5, h6, h7⟩ := entN_at sub rb hd
    obtain ⟨c, rfl, k1, ok⟩ := keyN_rb sub ra e1
    refine .inr ⟨p, c, xs, k, rfl, rfl, h1, k1, ok, ?_⟩
    rw [valN_some h4 h5 h7 k]
    exact q _ F H New.refl sub (.bl _)
  · exact .inl (sp_in F H x y a b z Q sub nt ra rb e q)
theorem sp_notInN : SP2 K kap (rNotInG K) fNotInN := by
  intro F H x y a b z Q sub nt ra rb e q
  unfold fNotInN at e
  split at e
  · rename_i ds hd
    obtain ⟨k, e1, rfl⟩ := Option.map_eq_some_iff.mp e
    obtain ⟨p, xs, vs, rfl, h1, h4, h5, h6, h7⟩ := entN_at sub rb hd
    obtain ⟨c, rfl, k1, ok⟩ := keyN_rb sub ra e1
    refine .inr ⟨p, c, xs, k, rfl, rfl, h1, k1, ok, ?_⟩
    rw [valN_some h4 h5 h7 k]
    exact q _ F H New.refl sub (.bl _)
  · exact .inl (sp_notIn F H x y a b z Q sub nt ra rb e q)
end
section
variable {X : Cx} {kap : Kp} {xi : Xi} {W : WX} {a b : Expr} {ta tb : WX → TE} {oa ob : Op} {pos : Pos}
theorem ix_nseq (hu : X.A.units + 64 < cLine) : IxR X (rIxA X.K) := ix_seq.or (ix_n hu)
theorem jItemN (hu : X.A.units + 64 < cLine) (ha : JO kap xi X W a ta oa) (hb : JO kap xi X W b tb ob) (hs : PlainIx b := by exact fun _ _ => rfl) : JE kap xi X W (.Subscript a b pos) (fun W => tOp (rIxA X.K) (ta W) (tb W)) (vO2 fIxN oa ob) := jIx (ix_nseq hu) sp_ixN ha hb hs
theorem opR_or {X : Cx} {f : Value → Value → Sem Value} {r r' : R2} (h : OpR X f r) (h' : OpR X f r') : OpR X f (fun x y H Q => r x y H Q ∨ r' x y H Q) := by
  intro pins s σ H x y v u Q I rx ry q
  rcases q with q | q
  · exact h pins s σ H x y v u Q I rx ry q
  · exact h' pins s σ H x y v u Q I rx ry q
theorem op_inG (hu : X.A.units + 65 < cLine) : OpR X (compareOp .In) (rInG X.K) := opR_or (op_inD hu) (op_inN (by omega))
theorem op_notInG (hu : X.A.units + 65 < cLine) : OpR X (compareOp .NotIn) (rNotInG X.K) := opR_or (op_notInD hu) (op_notInN (by omega))
end
/-! ### d[k] = v, d a name of our own -/
def putNA (i : Nat) (v k : D) (de : DEnv) : Option (Sl × D) → Ot
  | some (s, d) => (match entN d with
    | some ds => (match keyN k with
      | some kk => if ds.length < 16777216 then .nx (de.set i (s.same (.dn (putN ds kk k v)))) else .bad
      | none => .bad)
    | none => .bad)
  | none => .bad
def vSetN (i : Nat) (evv evk : DEnv → Rs D) (de : DEnv) : Ot :=
  (evv de).out fun v de1 => if (slotAt i de1).isSome = true then (evk de1).out fun k de2 => putNA i v k de2 (slotOw i de2) else .bad
section
variable {X : Cx} {kap : Kp} {xi : Xi} {W : WX} {e ek : Expr} {t tk : WX → TE} {ev evk : DEnv → Rs D} {pos pos' : Pos}
theorem jSetN (hu : X.A.units + 64 < cLine) (i : Nat) {x : Str} {xp : Pos} (hv : JE kap xi X W e t ev) (hk : JE kap xi X W ek tk evk) (hN : X.N[i]? = some x := by rfl) (hvis : Vis X.env.scope x := by first | exact Or.inl rfl | exact Or.inr (Or.inl rfl) | exact Or.inr (Or.inr rfl))
    (hd : (x == ("__debug__" : Str)) = false := by decide) (hcd : (x == ("__classdict__" : Str)) = false := by decide)
    (hs : swapsWith e (some (.Subscript (.Name x xp) ek pos')) pos.line X.env = pure false := by rfl) :
    JS kap xi X W (.Assign [.Subscript (.Name x xp) ek pos'] e pos) (fun W => sNPut X.K (tVar i) (tk W) (t W)) (vSetN i ev evk) := ⟨ps_nput hu (pe_var hN hvis hd hcd) hk.p hv.p hs, by
  intro W F H sg de O Dn R hp
  refine hv.s.out R hp fun v d F1 H1 de1 O1 R1 g1 r _ hp => ?_
  split at hp
  · rename_i hsl
    cases e0 : slotAt i de1 with
    | none => rw [e0] at hsl; cases hsl
    | some d0 =>
      obtain ⟨u, hu', _⟩ := R1.rb e0
      refine ⟨u, hu', ?_⟩
      refine hk.s.out R1 hp fun k' k F2 H2 de2 O2 R2 g2 rk _ hp => ?_
      cases eo : slotOw i de2 with
      | none => rw [eo] at hp; exact hp.elim
      | some sd =>
        obtain ⟨s, d1⟩ := sd
        rw [eo] at hp
        unfold putNA at hp
        dsimp only at hp
        split at hp
        · rename_i ds hent
          split at hp
          · rename_i kk hkk
            split at hp
            · rename_i hlen
              obtain ⟨e1, e2, p, h1, h2, h3, h4⟩ := R2.owl eo
              rw [hu'] at h2
              cases h2
              obtain ⟨a, xs, vs, ea, hat, g4, g5, g6, g7⟩ := entN_at R2.sub (.inr ⟨p, rfl, h3, h4⟩) hent
              cases ea
              obtain ⟨c, rfl, k1, ok⟩ := keyN_rep R2.sub rk hkk
              have hl : xs.length = ds.length := by simpa using congrArg List.length g5
              have hnd : (xs.map (·.1)).Nodup := by
                rcases hat with ⟨_, rfl⟩ | ⟨o, _, d', _, _⟩
                · exact List.nodup_nil
                · exact d'.nod
              refine ⟨p, c, xs, kk, rfl, rfl, hat, k1, ok, by rw [hl, line_eq]; exact hlen, fun o' u' ru hm dob => ?_⟩
              rw [storedH_eq kk c u' hnd] at dob
              have rr : Rep X.K kap F2 v d := Rep.mono g2.ex r
              obtain ⟨ws, w1, w2, w3, w4⟩ := put_at rk hkk ru rr g4 g5 g6 g7
              obtain ⟨R3, g3⟩ := R2.mut (o := exO p o') (d' := .dn (putN ds kk k d)) e1 e2 h1 ⟨o', _, ws, upd_same, dob, hm, w1, w2, w3, w4⟩
              exact hp F2 _ sg O2 R3 g3
            · exact hp.elim
          · exact hp.elim
        · exact hp.elim
  · exact hp.elim⟩
end
/-! ### for k in d -/
def itemsN : D → Option (List D)
  | .dn ds => some (ds.map (·.1))
  | d => itemsOf d
def vSeqN (ev : DEnv → Rs D) (de : DEnv) : Rs (List D) := (ev de).bind fun d de1 => ofO (itemsN d) de1
def iSeqN (K : PySem.W.Frag) (tl : TE) : TI := fun σ H R => tl σ H fun x H1 => (∃ a, x = .ref a ∧ (((∃ xs, SqL K H1 a xs) ∧ R (Itl K a) H1) ∨ ((∃ xs, SqT K H1 a xs) ∧ R (Itt K a) H1))) ∨
  ∃ (a : Addr) (o : Obj) (xs : List NEnt), x = .ref a ∧ H1 a = some (exO a o) ∧ DOb o xs ∧ (a == sysModules) = false ∧ R (Itn a o xs) H1
theorem pi_seqN {X : Cx} {tg l : Expr} {tl : TE} (hl : PE X l tl) : PI X tg l (iSeqN X.K tl) := by
  refine ⟨fun pins s σ H R I h => ?_⟩
  refine thn (hl.run pins s σ H _ I h) fun v s1 ⟨x, H1, I1, r1, q1⟩ => ?_
  rcases q1 with q1 | ⟨a, o, xs, e, hd, d, hm, q⟩
  · have k : PE X l (fun _ _ Q => Q x H1) ∨ True := .inr trivial
    obtain ⟨a, e, q⟩ := q1
    subst e
    cases r1
    rcases q with ⟨⟨xs, hq⟩, q⟩ | ⟨⟨xs, hq⟩, q⟩
    · obtain ⟨its, rv, p, hz⟩ := I1.list hq
      refine wpAny_pyIter_list p.isList ?_
      refine ⟨s1.heap.objs.size, [s1.heap.objs.size], _, _, H1, rfl, I1.kept (t' := s1.toks) fun b o e => Heap.get?_push_of_some _ e, turn_list a _, ⟨_, Heap.get?_push_size _ rfl, rfl, rfl⟩, fun b hb => ?_, q⟩
      have e : b = s1.heap.objs.size := by simpa using hb
      subst e
      exact I1.fpOk (Nat.le_refl _) (I1.hok.fresh (Nat.le_refl _))
    · obtain ⟨its, rv, p, hz⟩ := I1.tuple hq
      refine wpAny_pyIter_tuple (show s1.heap.IsTuple a its.toArray from p) ?_
      refine ⟨s1.heap.objs.size, [s1.heap.objs.size], _, _, H1, rfl, I1.kept (t' := s1.toks) fun b o e => Heap.get?_push_of_some _ e, turn_tuple a _, ⟨_, Heap.get?_push_size _ rfl, rfl, rfl⟩, fun b hb => ?_, q⟩
      have e : b = s1.heap.objs.size := by simpa using hb
      subst e
      exact I1.fpOk (Nat.le_refl _) (I1.hok.fresh (Nat.le_refl _))
  · subst e
    cases r1
    obtain ⟨es, ep, hdt, hes⟩ := d.dat
    refine iter_keys hm (exO_get I1 hd) d.ex hdt (pi_one (tk := s1.toks) I1 _ (turn_n _ hdt hes) ⟨_, Heap.get?_push_size _ rfl, rfl, ?_⟩ q)
    rw [ent_size hes] <;> rfl
theorem itn_ok {K : PySem.W.Frag} {kap : Kp} {F : Hp} {a : Addr} {o : Obj} {xs : List NEnt} {ks : List D} (h : F a = some (exO a o)) (r : Reps K kap F (xs.map fun x => V.ref x.2.1) ks) : ItOk K kap (Itn a o xs) F ks := fun i F2 H2 e1 e2 => by
  have h2 : H2 a = some (exO a o) := e2 _ _ (e1 _ _ h)
  have hl : xs.length = ks.length := by have := r.length; simpa using this
  refine ⟨fun hi => ⟨h2, by rw [hl]; exact hi⟩, fun d hd => ?_⟩
  obtain ⟨v, g1, g2⟩ := r.get hd
  have il : i < xs.length := by rw [hl]; exact (List.getElem?_eq_some_iff.mp hd).1
  refine ⟨⟨h2, il⟩, fun x H' ⟨e, y, hy, ey⟩ => ?_⟩
  subst e ey
  rw [List.getElem?_map, hy] at g1
  cases g1
  exact ⟨F2, New.refl, e2, g2.mono e1⟩
theorem jiSeqN {kap : Kp} {xi : Xi} {X : Cx} {W : WX} {tg e : Expr} {t : WX → TE} {ev : DEnv → Rs D} (h : JE kap xi X W e t ev) : JI kap xi X W tg e (fun W => iSeqN X.K (t W)) (vSeqN ev) := ⟨pi_seqN h.p, by
  intro W F H sg de O Q R hp
  refine h.s.bind R hp fun v d F1 H1 de1 O1 R1 g1 r _ hp => ?_
  obtain ⟨ds, e, hp⟩ := ofO_some hp
  unfold itemsN at e
  split at e
  · cases e
    cases r with
    | dn h1 h2 h3 h4 h5 h6 h7 => exact .inr ⟨_, _, _, rfl, R1.sub _ _ h1, h2, h3, hp.done R1 New.refl R1.sub (itn_ok h1 h6)⟩
  · obtain ⟨a, vs, rfl, rr, hq⟩ := rep_items r e
    refine .inl ⟨a, rfl, ?_⟩
    rcases hq with hq | hq
    · exact .inl ⟨⟨vs, sqL_mono R1.sub hq⟩, hp.done R1 New.refl R1.sub (itl_ok hq rr)⟩
    · exact .inr ⟨⟨vs, sqT_mono R1.sub hq⟩, hp.done R1 New.refl R1.sub (itt_ok hq rr)⟩⟩
/-! ### an own __getitem__ -/
def isC (c : Nat) : D → Bool
  | .obj c' _ => c' == c
  | _ => false
def vOwnIx (c : Nat) (m : List D → Fo) (ev ev' : DEnv → Rs D) (de : DEnv) : Rs D :=
  (ev de).bind fun x de1 => (ev' de1).bind fun y de2 => if isC c x = true then callC 2 none m [] [.v x, .v y] de2 else .bad
end DL
set_option maxRecDepth 100000
set_option maxHeartbeats 2000000
set_option autoImplicit false
/-! a thing of our own lent to a call that gives back a list of flat data -/
namespace DL
open PySem L2 PySem.Spec PyProof.Rows
mutual
def flD : D → Bool
  | .non => true
  | .bl _ => true
  | .int _ => true
  | .str _ => true
  | .tup ds => flDs ds
  | _ => false
def flDs : List D → Bool
  | [] => true
  | d :: ds => flD d && flDs ds
end
def flatL (de : DEnv) : Fo → Rs D
  | .retF (.lst ds) none => if flDs ds = true then .ok (.lst ds) de else .bad
  | .ret d none => if flD d = true then .ok d de else .bad
  | _ => .bad
def callL (n : Nat) (m : List D → Fo) (dcs : List D) (cs : List CA) (de : DEnv) : Rs D := match argB de cs with
  | some ds => if ds.length + dcs.length = n then flatL de (m (ds ++ dcs)) else .bad
  | none => .bad
def wCallL (n : Nat) (m : List D → Fo) (dcs : List D) (ea : DEnv → Rs (List CA)) (de : DEnv) : Rs D := (ea de).bind fun cs de1 => callL n m dcs cs de1
end DL
set_option maxRecDepth 100000
set_option maxHeartbeats 2000000
set_option autoImplicit false
/-! {k: v for ..}, the keys nested tuples -/
namespace DL
open PySem L2 PySem.Spec PyProof.Rows
/-- what a store into the new dict asks, and what it leaves -/
def StN (K : PySem.W.Frag) (D : Addr) (y z : V) (H5 : Hp) (Nx : Hp → Prop) : Prop := ∃ (b : Addr) (xs : List NEnt) (k : NestedKey), y = .ref b ∧ DAt K H5 D xs ∧ KA K H5 k (.ref b) ∧ okK k = true ∧ xs.length < sizeLine ∧
  ∀ (o' : Obj) (u : Value), RelV z u → (D == sysModules) = false → DOb o' (storedH xs k b u) → Nx (upd H5 D (exO D o'))
theorem n_dictSet {X : Cx} {pins : List (Addr × Obj)} {σ : L2.St} {H : Hp} {s : Shared} {D : Addr} {y z : V} {u r : Value} {Nx : Hp → Prop} {E : Value → Shared → Prop} {Q : Unit → Shared → Prop} (hu : X.A.units + 64 < cLine) (I : Inv X pins σ H s) (ry : RelV y u) (rz : RelV z r) (h : StN X.K D y z H Nx)
    (hq : ∀ H' s', Inv X pins σ H' s' → Nx H' → Q () s') : wpAny (model X.prog X.w) X.A (dictSet D u r) Q E s := by
  obtain ⟨b, xs, k, rfl, d, hb, ok, hl, hn⟩ := h
  cases (show u = Value.ref b from ry)
  obtain ⟨dd, hm, hz, mu, hok⟩ := dat_of I d
  refine wpAny_dictSet_heap (hsz := hz) (show X.A.units + 8 < cLine by omega) (key_is I hb ok) dd fun h' dd' hs => ?_
  obtain ⟨q, es, ep, hq', h2, h3, h4, _, h5⟩ := dd'
  have hok' := storedH_ok (b := b) (u := r) hok ok
  have dob : DOb q (storedH xs k b r) := ⟨h2, ⟨es, ep, h3, by rw [h4, ents_eq hok']⟩, h5, hok', by
    have := storedH_len xs k b r
    omega⟩
  exact hq _ _ (d_write I mu hs ⟨q, hq'⟩ (exO_ok hq')) (hn q r rz hm dob)
def tDcN (K : PySem.W.Frag) (wi : TI) (g : TG) (tt : TT) (tk tv : TE) (vs : List Nat) : TE := fun σ H Q => wi σ H fun J H1 => ∀ D, H1 D = none → ∃ W : Nat → Nat → Hp → Prop, (∃ m, W 0 m (upd H1 D (.dK []))) ∧ ∀ i m H, W i m H →
  (J.stop i H ∧ Q (.ref D) H) ∨ (J.go i H ∧ ∃ Nx : Hp → Prop, (∀ H', Nx H' → ∃ m', m' < m ∧ W (i + 1) m' H') ∧ ∀ x H', J.yld i H x H' → g x (wipe σ vs) H' fun σ2 H2 => wipe σ2 vs = wipe σ vs ∧ tt σ2 H2 fun b H3 =>
    if b = true then tk σ2 H3 fun y H4 => tv σ2 H4 fun z H5 => StN K D y z H5 Nx else Nx H3)
section
variable {X : Cx}
theorem dcn_core {pins : List (Addr × Obj)} {s : Shared} {σ : L2.St} {H : Hp} {Q : VK} {kx vx tg iter : Expr} {ifs : List Expr} {scope : Scope} {own : List (Str × Nat)} {pos pos' : Pos} {wi : TI} {g : TG} {tt : TT} {tk tv : TE} {use : Option (Value → Sem Unit)} {Qf : Value → Shared → Prop}
    (hu : X.A.units + 64 < cLine) (hc : X.calm = true) (hN : X.N.Nodup) (I : Inv X pins σ H s) (hi : PI X tg iter wi) (ok : BlkOk X.N X.env.scope scope own)
    (hg : ∀ (s : Shared) (H : Hp) (C : Addr) (cl : List (Str × Addr)) (fp : List Addr), PG (X.blk s H scope (compEnvC scope cl C X.env) fp) tg g) (ht : ∀ (s : Shared) (H : Hp) (C : Addr) (cl : List (Str × Addr)) (fp : List Addr), PTs (X.blk s H scope (compEnvC scope cl C X.env) fp) ifs tt)
    (hk : ∀ (s : Shared) (H : Hp) (C : Addr) (cl : List (Str × Addr)) (fp : List Addr), PE (X.blk s H scope (compEnvC scope cl C X.env) fp) kx tk)
    (he : ∀ (s : Shared) (H : Hp) (C : Addr) (cl : List (Str × Addr)) (fp : List Addr), PE (X.blk s H scope (compEnvC scope cl C X.env) fp) vx tv) (hs : ∀ x, foldedSetIterable iter X.env x = pure x)
    (h : tDcN X.K wi g tt tk tv (own.map (·.2)) σ H Q)
    (fin : ∀ D C s' m H', Inv X pins σ H' s' → Q (.ref D) H' → s'.heap.Ns C m → FpOk X pins H' C → compPost (model X.prog X.w) X.A X.xe use Qf (.ref D) C (.ok .next) s') :
    wpAny (model X.prog X.w) X.A (comprehension (.DictComp kx vx [⟨tg, iter, ifs, 0⟩] scope pos) scope X.env pos' newDict false (eval iter X.env) use) Qf X.xe s := by
  have free : ∀ y ∈ scope.names, y.2 = .free → ∃ c, X.env.cells.lookup y.1 = some c := fun y hy e => (ok.free y hy e).elim (fun k => I.ok.has _ (.inl k)) fun k => I.ok.has _ (.inr k)
  refine wpAny_comprehension_free (use := use) rfl hs (closure_ok free) ok.kind (fun y hy e => by rw [ok.uniq y hy, e])
    (thn (hi.run pins s σ H _ I h) fun xv s1 hx => thn hx fun itv s2 h2 => ?_)
  obtain ⟨it, fp, tn, J, H2, e, I2, T, st2, f2, q⟩ := h2
  subst e
  refine wpAny_newObj_type (newEnv_comp ?_)
  generalize hD : s2.heap.objs.size = D
  obtain ⟨W, ⟨m0, w0⟩, turn⟩ := q D (I2.hok.fresh (Nat.le_of_eq hD))
  have sz : ∀ b ∈ fp, b < s2.heap.objs.size := fun b hb => let ⟨_, e, _⟩ := T.obj _ _ st2 b hb; Heap.lt_size e
  generalize e3 : ({ s2 with heap := s2.heap.push { cls := .type "dict", data := .dict #[] } } : Shared) = s3
  have h3 : s3.heap = s2.heap.push { cls := .type "dict", data := .dict #[] } := by rw [← e3]
  have I3 : Inv X pins σ (upd H2 D (.dK [])) s3 := by
    rw [← e3]
    refine I2.laid (t' := s2.toks) (fun b o e => Heap.get?_push_of_some _ e) (Nat.le_of_eq hD) ?_
    rw [← hD]
    exact dk_empty s2.heap I2.big
  have f3 : ∀ b ∈ fp, FpOk X pins (upd H2 D (.dK [])) b ∧ b < s3.heap.objs.size := fun b hb => by
    refine ⟨⟨?_, (f2 b hb).2⟩, by rw [h3, Heap.size_push]; exact Nat.lt_succ_of_lt (sz b hb)⟩
    rw [upd_ne (by rw [← hD]; exact Nat.ne_of_lt (sz b hb))]
    exact (f2 b hb).1
  have st3 : tn 0 s3.heap := T.keep _ _ _ st2 fun b _ o e => by rw [h3]; exact Heap.get?_push_of_some _ e
  have I4 := block_start I3 ok hN f3
  have pg := hg s3 (upd H2 D (.dK [])) s3.heap.objs.size (cellsFrom (s3.heap.objs.size + 1) scope.names (cloFrom X.env.cells scope.names [])) fp
  have pt := ht s3 (upd H2 D (.dK [])) s3.heap.objs.size (cellsFrom (s3.heap.objs.size + 1) scope.names (cloFrom X.env.cells scope.names [])) fp
  have pk := hk s3 (upd H2 D (.dK [])) s3.heap.objs.size (cellsFrom (s3.heap.objs.size + 1) scope.names (cloFrom X.env.cells scope.names [])) fp
  have pe := he s3 (upd H2 D (.dK [])) s3.heap.objs.size (cellsFrom (s3.heap.objs.size + 1) scope.names (cloFrom X.env.cells scope.names [])) fp
  show codeAny _ _ (.compStart (.DictComp kx vx [⟨tg, iter, ifs, 0⟩] scope pos) 0 (.ref it) (.ref D) (compEnvC scope (cellsFrom (s3.heap.objs.size + 1) scope.names (cloFrom X.env.cells scope.names [])) s3.heap.objs.size X.env)) (compPost (model X.prog X.w) X.A X.xe use Qf (.ref D) s3.heap.objs.size) { s3 with heap := pushCells (s3.heap.push { cls := .type "dict", data := .dict #[] }) scope.names }
  have nfp : ∀ b ∈ fp, (upd H2 D (.dK [])) b = none := fun b hb => (f3 b hb).1.1
  generalize hce : compEnvC scope (cellsFrom (s3.heap.objs.size + 1) scope.names (cloFrom X.env.cells scope.names [])) s3.heap.objs.size X.env = ce at I4 pg pt pk pe ⊢
  have cL : ce.locals = s3.heap.objs.size := by subst hce; rfl
  generalize hH3 : upd H2 D (.dK []) = H3 at I3 I4 pg pt pk pe w0 nfp f3
  generalize e4 : ({ s3 with heap := pushCells (s3.heap.push { cls := .type "dict", data := .dict #[] }) scope.names } : Shared) = s4 at I4 ⊢
  have st4 : tn 0 s4.heap := T.keep _ _ _ st3 fun b _ o e => by rw [← e4]; exact pushCells_keeps _ _ _ _ (Heap.get?_push_of_some _ e)
  have stat : ∀ {σ' : L2.St} {H' : Hp} {s' : Shared}, Inv (X.blk s3 H3 scope ce fp) [] σ' H' s' → (∀ b ∈ fp, H' b = none) → ∀ b ∈ fp, FpOk (X.blk s3 H3 scope ce fp) [] H' b := fun {σ' H' s'} I' hn b hb =>
    ⟨hn b hb, (I'.ok.exf b hb).1, I'.ok.exfs b hb, .inl hb, fun x c e => (I'.ok.exf b hb).2 x c e, fun p hp => absurd (show p ∈ ([] : List (Addr × Obj)) ++ [] from hp) (by simp)⟩
  have loop : codeAny (model X.prog X.w) X.A (.compLoop (.DictComp kx vx [⟨tg, iter, ifs, 0⟩] scope pos) 0 (.ref it) (.ref D) ce) (compPost (model X.prog X.w) X.A X.xe use Qf (.ref D) s3.heap.objs.size) s4 := by
    refine compLoop_anyD (fun n s' => ∃ i H', Inv (X.blk s3 H3 scope ce fp) [] (wipe σ (own.map (·.2))) H' s' ∧ tn i s'.heap ∧ (∀ b ∈ fp, H' b = none) ∧ W i n H') ?_ m0 ⟨0, H3, I4, st4, nfp, w0⟩
    rintro n s5 ⟨i, H5, I5, st5, n5, w5⟩
    rcases turn i n H5 w5 with ⟨stop, qq⟩ | ⟨go, Nx, hNx, step⟩
    · refine thnF (T.done (X.blk s3 H3 scope ce fp) rfl rfl rfl hc i [] s5 _ H5 (fun _ _ => False) I5 (stat I5 n5) st5 stop) fun r s6 ⟨hr, I6⟩ => ?_
      subst hr
      have I7 : Inv X pins σ H5 s6 := I3.call' (ch := fp) I6.os I6.base I6.hok I6.bare fun b hb => ⟨(f3 b hb).1.2.2.2.1, (f3 b hb).1.2.1, (f3 b hb).1.2.2.2.2.1, (f3 b hb).1.2.2.2.2.2⟩
      have nC : H5 s3.heap.objs.size = none := by
        have z : H5 ce.locals = none := I6.free
        rwa [cL] at z
      obtain ⟨m, hn, _⟩ := I6.loc
      have hn : s6.heap.Ns ce.locals m := hn
      rw [cL] at hn
      exact fin D s3.heap.objs.size s6 m H5 I7 qq hn (I3.fpOk (Nat.le_refl _) nC)
    · refine thnF (T.item (X.blk s3 H3 scope ce fp) rfl rfl rfl hc i [] s5 _ H5 (fun _ _ => False) I5 (stat I5 n5) st5 go) fun r s6 ⟨u, hr, h6⟩ => ?_
      subst hr
      refine thnF h6 fun _ s7 ⟨x, H7, I7, r7, y7, st7, n7⟩ => ?_
      refine thnF (pg.run _ s7 _ H7 x u _ (I7.pinned (stat I7 n7) (T.obj _ _ st7)) r7 (step x H7 y7)) fun _ s8 ⟨σ8, H8, I8, hw8, q8⟩ => ?_
      refine thnF (pt.run _ s8 σ8 H8 _ I8 q8) fun b s9 ⟨H9, I9, q9⟩ => ?_
      have back : ∀ {s' : Shared} {H' : Hp}, Inv (X.blk s3 H3 scope ce fp) ([] ++ pinsAt fp s7.heap) σ8 H' s' → Nx H' → ∃ m, m < n ∧ ∃ i H', Inv (X.blk s3 H3 scope ce fp) [] (wipe σ (own.map (·.2))) H' s' ∧ tn i s'.heap ∧ (∀ b ∈ fp, H' b = none) ∧ W i m H' := fun {s' H'} I' nx => by
        obtain ⟨m', hm, w'⟩ := hNx H' nx
        have pin' : ∀ b ∈ fp, ∀ o, s7.heap.get? b = some o → s'.heap.get? b = some o ∧ H' b = none := fun b hb o e =>
          let z := I'.pin (b, o) (List.mem_append_right _ (List.mem_append_right _ (mem_pinsAt hb e)))
          ⟨z.1, z.2.1⟩
        have hl : (wipe σ (own.map (·.2))).length = σ8.length := by rw [← hw8, wipe_length]
        refine ⟨m', hm, i + 1, H', (I'.unpinned (pins := [])).weak hl (fun j v e => ?_), T.keep _ _ _ st7 fun b hb o e => (pin' b hb o e).1, fun b hb => ?_, w'⟩
        · rw [← hw8] at e
          exact (wipe_some e).1
        · obtain ⟨o, e, _⟩ := T.obj _ _ st7 b hb
          exact (pin' b hb o e).2
      cases b with
      | false =>
        simp only [Bool.false_eq_true, if_false] at q9 ⊢
        exact back I9 q9
      | true =>
        simp only [if_true] at q9 ⊢
        refine thnF (pk.run _ s9 σ8 H9 _ I9 q9) fun z s10 ⟨yk, H10, I10, r10, q10⟩ => thnF (pe.run _ s10 σ8 H10 _ I10 q10) fun z2 s11 ⟨yv, H11, I11, r11, q11⟩ => ?_
        exact n_dictSet (X := X.blk s3 H3 scope ce fp) (Nx := Nx) hu I11 r10 r11 q11 fun H' s' I' nx => back I' nx
  exact codeAny_compStart_dict loop (T.self X.A 0 _ _ _ st4 loop)
theorem pe_dcn {kx vx tg iter : Expr} {ifs : List Expr} {scope : Scope} {own : List (Str × Nat)} {pos : Pos} {wi : TI} {g : TG} {tt : TT} {tk tv : TE} (hu : X.A.units + 64 < cLine) (hc : X.calm = true) (hN : X.N.Nodup) (hi : PI X tg iter wi) (ok : BlkOk X.N X.env.scope scope own)
    (hg : ∀ (s : Shared) (H : Hp) (C : Addr) (cl : List (Str × Addr)) (fp : List Addr), PG (X.blk s H scope (compEnvC scope cl C X.env) fp) tg g) (ht : ∀ (s : Shared) (H : Hp) (C : Addr) (cl : List (Str × Addr)) (fp : List Addr), PTs (X.blk s H scope (compEnvC scope cl C X.env) fp) ifs tt)
    (hk : ∀ (s : Shared) (H : Hp) (C : Addr) (cl : List (Str × Addr)) (fp : List Addr), PE (X.blk s H scope (compEnvC scope cl C X.env) fp) kx tk)
    (he : ∀ (s : Shared) (H : Hp) (C : Addr) (cl : List (Str × Addr)) (fp : List Addr), PE (X.blk s H scope (compEnvC scope cl C X.env) fp) vx tv) (hs : ∀ x, foldedSetIterable iter X.env x = pure x := by intro _; rfl) :
    PE X (.DictComp kx vx [⟨tg, iter, ifs, 0⟩] scope pos) (tDcN X.K wi g tt tk tv (own.map (·.2))) := by
  refine ⟨fun pins s σ H Q I h => ?_⟩
  rw [arm_eval_DictComp]
  refine dcn_core hu hc hN I hi ok hg ht hk he hs h fun D C s' m H' I' q hn f => ⟨m, hn, fun h'' sb => ?_⟩
  obtain ⟨f0, f1, f2, f3, f4, f5⟩ := f
  exact ⟨.ref D, H', I'.turned (t' := s'.toks) (fun b o hb e => (sb.2 b hb).trans e) f0 f1 f3 f4 f5, rfl, q⟩
end
/-! ### as data -/
def dnD : List (D × D) → D
  | [] => .dk []
  | p :: r => .dn (p :: r)
def dcGo (vs : List Nat) (g : D → DEnv → Option DEnv) (tt : DEnv → Rs Bool) (tk tv : DEnv → Rs D) : List D → List (D × D) → DEnv → Option (List (D × D) × DEnv)
  | [], acc, de => some (acc, de)
  | d :: r, acc, de => (g d de).bind fun de1 => match tt de1 with
    | .ok true de2 => (match tk de2 with
      | .ok kd de3 => (match tv de3 with
        | .ok z de4 => (keyN kd).bind fun kk => dcGo vs g tt tk tv r (putN acc kk kd z) (wipeD de4 vs)
        | _ => none)
      | _ => none)
    | .ok false de2 => dcGo vs g tt tk tv r acc (wipeD de2 vs)
    | _ => none
def vDc (vs : List Nat) (ei : DEnv → Rs (List D)) (g : D → DEnv → Option DEnv) (tt : DEnv → Rs Bool) (tk tv : DEnv → Rs D) (de : DEnv) : Rs D :=
  (ei de).bind fun ds de1 => if plainAt de1 vs = true ∧ ds.length ≤ 1000000 then (match dcGo vs g tt tk tv ds [] (wipeD de1 vs) with
    | some (xs, de2) => .ok (dnD xs) (restD de1 vs de2)
    | none => .bad) else .bad
theorem ent_dnD (xs : List (D × D)) : entN (dnD xs) = some xs := by cases xs <;> rfl
theorem dnD_put (xs : List (D × D)) (k : NestedKey) (kd z : D) : dnD (putN xs k kd z) = .dn (putN xs k kd z) := by
  cases h : putN xs k kd z with
  | nil => cases xs with
    | nil => cases h
    | cons p r => unfold putN at h; split at h <;> cases h
  | cons p r => rfl
section
variable {K : PySem.W.Frag} {kap : Kp} {xi : Xi} {wi : WX → TI} {g : TG} {is vs : List Nat} {tt : WX → TT} {tk tv : WX → TE} {ei : DEnv → Rs (List D)} {eg : D → DEnv → Option DEnv} {et : DEnv → Rs Bool} {ek ee : DEnv → Rs D}
/-- the store, told of the data -/
theorem stN_of {F H : Hp} {Dn : Addr} {y z : V} {kd x0 : D} {kk : NestedKey} {acc : List (D × D)} {Nx : Hp → Prop} (sub : Same F H) (hF : F Dn = none) (ho : Own K kap F H Dn (dnD acc)) (hl : acc.length < 16777216) (hk : Rep K kap F y kd) (hkk : keyN kd = some kk) (hz : Rep K kap F z x0)
    (h : ∀ o, Own K kap F (upd H Dn o) Dn (dnD (putN acc kk kd x0)) → Nx (upd H Dn o)) : StN K Dn y z H Nx := by
  obtain ⟨c, rfl, k1, ok⟩ := keyN_rep sub hk hkk
  obtain ⟨a, xs, ws, ea, hat, g4, g5, g6, g7⟩ := entN_at sub (.inr ⟨Dn, rfl, hF, ho⟩) (ent_dnD acc)
  cases ea
  have hll : xs.length = acc.length := by simpa using congrArg List.length g5
  have hnd : (xs.map (·.1)).Nodup := by
    rcases hat with ⟨_, rfl⟩ | ⟨o, _, d', _, _⟩
    · exact List.nodup_nil
    · exact d'.nod
  refine ⟨c, xs, kk, rfl, hat, k1, ok, by rw [hll, line_eq]; exact hl, fun o' u' ru hm dob => ?_⟩
  rw [storedH_eq kk c u' hnd] at dob
  obtain ⟨us, w1, w2, w3, w4⟩ := put_at hk hkk ru hz g4 g5 g6 g7
  refine h (exO Dn o') ?_
  rw [dnD_put]
  exact ⟨o', _, us, upd_same, dob, hm, w1, w2, w3, w4⟩
theorem snd_dc (hi : Snd K kap xi (RlI K kap) wi ei) (hg : SndG K kap xi g is eg) (his : ∀ i ∈ is, i ∈ vs) (ht : Snd K kap xi RlB tt et) (hk : Snd K kap xi (RlE K kap) tk ek) (he : Snd K kap xi (RlE K kap) tv ee) :
    Snd K kap xi (RlF K kap) (fun W => tDcN K (wi W) g (tt W0) (tk W0) (tv W0) vs) (vDc vs ei eg et ek ee) := by
  intro W F H sg de O Q R hp
  refine hi.bind R hp fun J ds F1 H1 de1 O1 R1 g1 ij _ hp => ?_
  split at hp
  · rename_i hh
    obtain ⟨hpl, hlen⟩ := hh
    obtain ⟨Ow, Rw, gw⟩ := R1.wipe vs
    cases el : dcGo vs eg et ek ee ds [] (wipeD de1 vs) with
    | none => rw [el] at hp; exact hp.elim
    | some p0 =>
      obtain ⟨xs, de2⟩ := p0
      rw [el] at hp
      intro Dn hD
      have hDF : F1 Dn = none := R1.sub.free hD
      have hDO : ∀ i, Ow i ≠ some Dn := Rw.nofresh hD
      have R0 := Rw.side (o := .dK []) hDF hDO (.none hD)
      refine ⟨fun i m Hc => m = ds.length - i ∧ i ≤ ds.length ∧ ∃ Fc dc Oc accD, Same F1 Fc ∧ RS K kap xi Fc Hc (L2.wipe sg vs) dc Oc ∧ Go F1 H1 (wipeD de1 vs) Ow Fc Hc dc Oc ∧ Own K kap Fc Hc Dn (dnD accD) ∧ Fc Dn = none ∧ (∀ i, Oc i ≠ some Dn) ∧ accD.length ≤ i ∧
        (∀ i ∈ vs, ∀ s, dc[i]? = some s → s = .no) ∧ dc.length = de1.length ∧ dcGo vs eg et ek ee (ds.drop i) accD dc = some (xs, de2),
        ⟨ds.length, by simp, Nat.zero_le _, F1, wipeD de1 vs, Ow, [], Same.refl _, R0, Go.refl.side hD, ⟨[], upd_same, rfl, .nil⟩, hDF, hDO, Nat.le_refl _, fun i hi s e => wipeD_in hi s e, wipeD_len _ _, by simpa using el⟩, ?_⟩
      rintro i m Hc ⟨rfl, hil, Fc, dc, Oc, accD, ex, Rc, gc, hDc, hFc, hOc, hal, hno, hdl, hgo⟩
      obtain ⟨o0, ho0⟩ := hDc.some
      have t0 : ∀ ps, o0 ≠ .tbl ps := fun ps z => hDc.notTbl ps (by rw [ho0, z])
      obtain ⟨hstop, hstep⟩ := ij i Fc Hc ex Rc.sub
      by_cases hlt : i < ds.length
      · have hd : ds[i]? = some ds[i] := by simp [hlt]
        obtain ⟨go, hy⟩ := hstep _ hd
        rw [List.drop_eq_getElem_cons hlt] at hgo
        unfold dcGo at hgo
        refine .inr ⟨go, fun H' => ∃ Fc dc Oc accD, Same F1 Fc ∧ RS K kap xi Fc H' (L2.wipe sg vs) dc Oc ∧ Go F1 H1 (wipeD de1 vs) Ow Fc H' dc Oc ∧ Own K kap Fc H' Dn (dnD accD) ∧ Fc Dn = none ∧ (∀ i, Oc i ≠ some Dn) ∧ accD.length ≤ i + 1 ∧
          (∀ i ∈ vs, ∀ s, dc[i]? = some s → s = .no) ∧ dc.length = de1.length ∧ dcGo vs eg et ek ee (ds.drop (i + 1)) accD dc = some (xs, de2), fun H' p' => ⟨ds.length - (i + 1), by omega, rfl, hlt, p'⟩, fun x H' y => ?_⟩
        obtain ⟨F2, n2, s2, r2⟩ := hy x H' y
        have R2 := Rc.new n2 s2
        have g2 : Go Fc Hc dc Oc F2 H' dc Oc := n2.go
        obtain ⟨hD2, hF2, hO2⟩ := g2.notO ho0 hFc hOc t0
        obtain ⟨dc1, eg1, hgo⟩ := bind_some hgo
        refine hg F2 H' (L2.wipe sg vs) dc Oc x _ dc1 _ R2 r2 eg1 fun sg3 O3 R3 g3 ag al => ?_
        have ew : L2.wipe sg3 vs = L2.wipe sg vs := by
          have h1 : L2.wipe sg3 vs = L2.wipe (L2.wipe sg vs) vs := wipe_eq al fun j hj => ag j fun z => hj (his j z)
          rw [h1]
          exact wipe_eq (wipe_length _ _) fun j hj => wipe_out hj
        refine ⟨ew, ?_⟩
        obtain ⟨hD3, hF3, hO3⟩ := g3.notO hD2 hF2 hO2 t0
        refine ht W0 F2 H' sg3 dc1 O3 _ R3 ?_
        cases e4 : et dc1 with
        | bad => rw [e4] at hgo; cases hgo
        | ex c fs dc2 => rw [e4] at hgo; cases hgo
        | ok b dc2 =>
          rw [e4] at hgo
          intro v F3 H3 O4 R4 g4 rb _
          have rb : v = b := rb
          subst rb
          obtain ⟨hD4, hF4, hO4⟩ := g4.notO hD3 hF3 hO3 t0
          have gA := ((gc.trans g2).trans g3).trans g4
          have ow4 : Own K kap F3 H3 Dn (dnD accD) := hDc.mono (n2.f.trans g4.ex) (hD4.trans ho0.symm)
          cases v with
          | false =>
            refine iteF ?_
            obtain ⟨O5, R5, g5⟩ := R4.wipe vs
            obtain ⟨hD5, hF5, hO5⟩ := g5.notO hD4 hF4 hO4 t0
            rw [ew] at R5
            exact ⟨F3, wipeD dc2 vs, O5, accD, ((ex.trans n2.f).trans g4.ex), R5, gA.trans g5, ow4, hF5, hO5, Nat.le_succ_of_le hal, fun i hi s e => wipeD_in hi s e,
              by rw [← R5.len, wipe_length, R1.len], hgo⟩
          | true =>
            refine iteT (hk W0 F3 H3 sg3 dc2 O4 _ R4 ?_)
            have hgo : (match ek dc2 with
              | .ok kd de3 => (match ee de3 with
                | .ok z de4 => (keyN kd).bind fun kk => dcGo vs eg et ek ee (ds.drop (i + 1)) (putN accD kk kd z) (wipeD de4 vs)
                | _ => none)
              | _ => none) = some (xs, de2) := hgo
            cases e5 : ek dc2 with
            | bad => rw [e5] at hgo; cases hgo
            | ex c fs dc3 => rw [e5] at hgo; cases hgo
            | ok kd dc3 =>
              rw [e5] at hgo
              intro yk F4 H4 O5 R5 g5 rk _
              obtain ⟨hD5, hF5, hO5⟩ := g5.notO hD4 hF4 hO4 t0
              refine he W0 F4 H4 sg3 dc3 O5 _ R5 ?_
              have hgo : (match ee dc3 with
                | .ok z de4 => (keyN kd).bind fun kk => dcGo vs eg et ek ee (ds.drop (i + 1)) (putN accD kk kd z) (wipeD de4 vs)
                | _ => none) = some (xs, de2) := hgo
              cases e6 : ee dc3 with
              | bad => rw [e6] at hgo; cases hgo
              | ex c fs dc4 => rw [e6] at hgo; cases hgo
              | ok x0 dc4 =>
                rw [e6] at hgo
                intro y0 F5 H5 O6 R6 g6 ry _
                obtain ⟨hD6, hF6, hO6⟩ := g6.notO hD5 hF5 hO5 t0
                obtain ⟨kk, hkk, hgo⟩ := bind_some hgo
                have ow6 : Own K kap F5 H5 Dn (dnD accD) := ow4.mono (g5.ex.trans g6.ex) (hD6.trans hD4.symm)
                refine stN_of R6.sub hF6 ow6 (by omega) (rk.mono g6.ex) hkk ry fun o ho => ?_
                have R7 := R6.side (o := o) hF6 hO6 (.own ow6) ho.nl
                obtain ⟨O7, R8, g8⟩ := R7.wipe vs
                obtain ⟨hD8, hF8, hO8⟩ := g8.notO upd_same hF6 hO6 fun ps z => ho.notTbl ps (by rw [upd_same, z])
                rw [ew] at R8
                have := putN_len accD kk kd x0
                exact ⟨F5, wipeD dc4 vs, O7, putN accD kk kd x0, ((((ex.trans n2.f).trans g4.ex).trans g5.ex).trans g6.ex), R8, (((gA.trans g5).trans g6).side hD).trans g8, ho, hF8, hO8, by omega, fun i hi s e => wipeD_in hi s e,
                  by rw [← R8.len, wipe_length, R1.len], hgo⟩
      · refine .inl ⟨hstop (Nat.le_of_not_lt hlt), ?_⟩
        rw [List.drop_eq_nil_of_le (Nat.le_of_not_lt hlt)] at hgo
        cases hgo
        have Rr := R1.rest hpl ex Rc hno hdl
        refine hp (.ref Dn) Fc Hc Oc Rr ⟨gc.ex, fun a o h t n => gc.keep a o h t fun j e => ?_, fun j a e => ?_, gc.dom, fun a h => ?_, fun j d' e => ?_⟩ ⟨Dn, rfl, hFc, hDc, hOc⟩ fun p z => by cases z; exact .inl hD
        · exact absurd e (fun _ => by
            rcases gw.new j a e with ⟨k, z⟩ | z
            · exact n k z
            · rw [h] at z; cases z)
        · rcases gc.new j a e with ⟨k, z⟩ | z
          · rcases gw.new k a z with ⟨k2, z2⟩ | z2
            · exact .inl ⟨k2, z2⟩
            · exact .inr z2
          · exact .inr z
        · rcases gc.fnew a h with z | z | ⟨k, z⟩
          · exact .inl z
          · exact .inr (.inl z)
          · rcases gw.new k a z with ⟨k2, z2⟩ | z2
            · exact .inr (.inr ⟨k2, z2⟩)
            · exact .inr (.inl z2)
        · have hj : j ∉ vs := fun hj => by
            have z := restD_in hj _ e
            have l1 := (List.getElem?_eq_some_iff.mp e).1
            rw [restD_len, hdl] at l1
            have p1 : plainS de1[j]? = true := List.all_eq_true.mp hpl j hj
            rw [List.getD_eq_getElem?_getD] at z
            rw [List.getElem?_eq_getElem l1] at p1 z
            have z : Sl.pn d' = de1[j] := by simpa using z
            rw [← z] at p1
            cases p1
          rw [restD_out hj] at e
          obtain ⟨k1, d1, k2⟩ := gc.pin j d' e
          obtain ⟨k3, d3, k4⟩ := gw.pin j d1 k2
          exact ⟨k1.trans k3, d3, k4⟩
  · exact hp.elim
end
theorem jDc (own : List (Str × Nat)) {kap : Kp} {xi : Xi} {X : Cx} {W : WX} {tg iter kx vx : Expr} {ifs : List Expr} {scope : Scope} {pos : Pos} {wi : WX → TI} {g : TG} {is : List Nat} {tt : WX → TT} {tk tv : WX → TE} {ei : DEnv → Rs (List D)} {eg : D → DEnv → Option DEnv} {et : DEnv → Rs Bool} {ek ee : DEnv → Rs D}
    (hu : X.A.units + 64 < cLine) (hN : X.N.Nodup) (ok : BlkOk X.N X.env.scope scope own) (hi : JI kap xi X W tg iter wi ei) (hg : ∀ (s : Shared) (H : Hp) (C : Addr) (cl : List (Str × Addr)) (fp : List Addr), JG kap (X.blk s H scope (compEnvC scope cl C X.env) fp) tg g is eg)
    (ht : ∀ (s : Shared) (H : Hp) (C : Addr) (cl : List (Str × Addr)) (fp : List Addr), JTs kap xi (X.blk s H scope (compEnvC scope cl C X.env) fp) W0 ifs tt et)
    (hk : ∀ (s : Shared) (H : Hp) (C : Addr) (cl : List (Str × Addr)) (fp : List Addr), JE kap xi (X.blk s H scope (compEnvC scope cl C X.env) fp) W0 kx tk ek)
    (he : ∀ (s : Shared) (H : Hp) (C : Addr) (cl : List (Str × Addr)) (fp : List Addr), JE kap xi (X.blk s H scope (compEnvC scope cl C X.env) fp) W0 vx tv ee)
    (his : ∀ i ∈ is, i ∈ own.map (·.2)) (hc : X.calm = true := by rfl) (hs : ∀ x, foldedSetIterable iter X.env x = pure x := by intro _; rfl) :
    JF kap xi X W (.DictComp kx vx [⟨tg, iter, ifs, 0⟩] scope pos) (fun W => tDcN X.K (wi W) g (tt W0) (tk W0) (tv W0) (own.map (·.2))) (vDc (own.map (·.2)) ei eg et ek ee) :=
  ⟨pe_dcn hu hc hN hi.p ok (fun s H C cl fp => (hg s H C cl fp).p) (fun s H C cl fp => (ht s H C cl fp).p) (fun s H C cl fp => (hk s H C cl fp).p) (fun s H C cl fp => (he s H C cl fp).p) hs,
    snd_dc hi.s (fun F H sg de O v d de' Q => (hg X.s_0 X.H_0 0 [] []).s xi F H sg de O v d de' Q) his (ht X.s_0 X.H_0 0 [] []).s (hk X.s_0 X.H_0 0 [] []).s (he X.s_0 X.H_0 0 [] []).s⟩
end DL
set_option maxRecDepth 100000
set_option maxHeartbeats 2000000
set_option autoImplicit false
/-! == and != of dicts with nested keys -/
namespace DL
open PySem L2 PySem.Spec PyProof.Rows
open PySem.SeqAt (EqIn EqAt)
section
variable {prog : Program} {w : World} {A : Around} {E : Value → Shared → Prop} {s : Shared}
/-- each entry looked up in the other dict -/
inductive HitsN (prog : Program) (w : World) (A : Around) (s : Shared) (xb : List NEnt) : List NEnt → Bool → Prop
  | nil : HitsN prog w A s xb [] true
  | miss {x : NEnt} {r : List NEnt} : atKey xb x.1 = none → HitsN prog w A s xb (x :: r) false
  | hit {x : NEnt} {p : Addr × Value} {r : List NEnt} {e b : Bool} : atKey xb x.1 = some p → EqIn prog w A s x.2.2 p.2 e → HitsN prog w A s xb r b → HitsN prog w A s xb (x :: r) (e && b)
end
/-! ### as data -/
inductive HitsV (K : PySem.W.Frag) (H : Hp) (xb : List NEnt) : List NEnt → Bool → Prop
  | nil : HitsV K H xb [] true
  | miss {x : NEnt} {r : List NEnt} : atKey xb x.1 = none → HitsV K H xb (x :: r) false
  | hit {x : NEnt} {p : Addr × Value} {r : List NEnt} {b : Bool} {v u : V} {d e : PyData} : atKey xb x.1 = some p → RelV v x.2.2 → RelV u p.2 → Dp K H v d → Dp K H u e → SeqAt.shaped d = true → SeqAt.shaped e = true → HitsV K H xb r b → HitsV K H xb (x :: r) (PyData.eqv d e && b)
theorem HitsV.to {X : Cx} {pins : List (Addr × Obj)} {σ : L2.St} {H : Hp} {s : Shared} {A : Around} (I : Inv X pins σ H s) (hu : A.units + 64 < cLine) {xb : List NEnt} : ∀ {xs : List NEnt} {b : Bool}, HitsV X.K H xb xs b → HitsN X.prog X.w A s xb xs b
  | _, _, .nil => .nil
  | _, _, .miss h => .miss h
  | _, _, .hit (v := v) (u := u) (d := d) (e := e) h r1 r2 h1 h2 s1 s2 q => by
    obtain ⟨as, k1⟩ := Dp.reads I d v _ h1 r1
    obtain ⟨bs, k2⟩ := Dp.reads I e u _ h2 r2
    refine .hit h ?_ (HitsV.to I hu q)
    exact (SeqAt.eqAt_reads d e A s _ _ as bs k1 k2 (SeqAt.canLay_of_shaped s1) (SeqAt.canLay_of_shaped s2) (SeqAt.room_of_shaped s1 hu)).inModel _ _
/-- all entries of the one looked up in the other -/
def eqGo (bs : List (D × D)) : List (D × D) → Option Bool
  | [] => some true
  | p :: r => (keyN p.1).bind fun k => match valN bs k with
    | none => some false
    | some z => if SeqAt.shaped (toPy p.2) && SeqAt.shaped (toPy z) then (eqGo bs r).map fun b => PyData.eqv (toPy p.2) (toPy z) && b else none
def fEqN (g : Bool → Bool) (a b : D) : Option D := match a, b with
  | .dn xs, .dn ys => (eqGo ys xs).map fun r => .bl (g (xs.length == ys.length && r))
  | _, _ => none
end DL
set_option maxRecDepth 100000
set_option maxHeartbeats 2000000
set_option autoImplicit false
/-! x.f += e, x an owned object -/
namespace DL
open PySem L2
def augFB (i : Nat) (c : Nat) (f : Str) (z : Int) (de : DEnv) : Option (Sl × D) → Ot
  | some (s, .obj c' fs) => if c' = c ∧ fs.length < 1000 then .nx (de.set i (s.same (.obj c' (putD f (.int z) fs)))) else .bad
  | _ => .bad
def augFI (i : Nat) (c : Nat) (f : Str) (g : Int → Int → Int) (a : Int) (de : DEnv) : D → Ot
  | .int j => augFB i c f (g a j) de (slotOw i de)
  | _ => .bad
def augFL (i : Nat) (c : Nat) (f : Str) (g : Int → Int → Int) (ev : DEnv → Rs D) (de : DEnv) : Option D → Ot
  | some (.int a) => (ev de).out fun b de1 => augFI i c f g a de1 b
  | _ => .bad
def augFA (i : Nat) (cl : List Nat) (f : Str) (g : Int → Int → Int) (ev : DEnv → Rs D) (de : DEnv) : Option (Sl × D) → Ot
  | some (_, .obj c fs) => if cl.contains c = true then augFL i c f g ev de (fs.lookup f) else .bad
  | _ => .bad
def vAugFld (i : Nat) (cl : List Nat) (f : Str) (g : Int → Int → Int) (ev : DEnv → Rs D) (de : DEnv) : Ot := augFA i cl f g ev de (slotOw i de)
end DL
set_option maxRecDepth 100000
set_option maxHeartbeats 2000000
set_option autoImplicit false
/-! len() by an own __len__ -/
namespace DL
open PySem L2 PySem.Spec PyProof.Rows
def lenOk : Fo → Option D
  | .ret (.int n) none => if 0 ≤ n ∧ n < 9223372036854775808 then some (.int n) else none
  | _ => none
def fLenO (c : Nat) (m : List D → Fo) : List D → Option D
  | [.obj c' fs] => if c' = c then lenOk (m [.obj c' fs]) else none
  | xs => fLen xs
end DL
set_option maxRecDepth 100000
set_option maxHeartbeats 2000000
set_option autoImplicit false
/-! operators by an own class, with an int on either side -/
namespace DL
open PySem L2 PySem.Spec PyProof.Rows
end DL
set_option maxRecDepth 100000
set_option maxHeartbeats 2000000
set_option autoImplicit false
/-! comparisons by an own class, with an int on either side -/
namespace DL
open PySem L2 PySem.Spec PyProof.Rows
end DL
set_option maxRecDepth 100000
set_option maxHeartbeats 2000000
set_option autoImplicit false
/-! - and abs() by an own class; what is never reached -/
namespace DL
open PySem L2 PySem.Spec PyProof.Rows
end DL
set_option maxRecDepth 100000
set_option maxHeartbeats 2000000
set_option autoImplicit false
/-! {k: v} with a nested key; min, max; reversed(range(..)) -/
namespace DL
open PySem L2 PySem.Spec PyProof.Rows
/-! ### min and max -/
def minI : List Int → Int
  | [] => 0
  | a :: l => l.foldl (fun m x => if x < m then x else m) a
theorem min_fold : ∀ (l : List Int) (a : Int), (l.foldl (fun m x => if x < m then x else m) a = a ∨ l.foldl (fun m x => if x < m then x else m) a ∈ l) ∧ l.foldl (fun m x => if x < m then x else m) a ≤ a ∧ ∀ y ∈ l, l.foldl (fun m x => if x < m then x else m) a ≤ y
  | [], a => ⟨.inl rfl, Int.le_refl _, by simp⟩
  | x :: l, a => by
    rw [List.foldl_cons]
    obtain ⟨h1, h2, h3⟩ := min_fold l (if x < a then x else a)
    have hx : (if x < a then x else a) ≤ a ∧ (if x < a then x else a) ≤ x ∧ ((if x < a then x else a) = a ∨ (if x < a then x else a) = x) := by split <;> omega
    refine ⟨?_, by omega, fun y hy => ?_⟩
    · rcases h1 with h1 | h1
      · rw [h1]
        rcases hx.2.2 with h | h
        · exact .inl h
        · exact .inr (by rw [h]; exact List.mem_cons_self)
      · exact .inr (List.mem_cons_of_mem _ h1)
    · rcases List.mem_cons.mp hy with rfl | hy
      · omega
      · exact h3 y hy
theorem minI_spec {l : List Int} (h : l ≠ []) : minI l ∈ l ∧ ∀ y ∈ l, minI l ≤ y := by
  cases l with
  | nil => exact absurd rfl h
  | cons a l =>
    obtain ⟨h1, h2, h3⟩ := min_fold l a
    refine ⟨?_, fun y hy => ?_⟩
    · show l.foldl _ a ∈ a :: l
      rcases h1 with h1 | h1
      · rw [h1]; exact List.mem_cons_self
      · exact List.mem_cons_of_mem _ h1
    · rcases List.mem_cons.mp hy with rfl | hy
      · exact h2
      · exact h3 y hy
def nz1 (f : List Int → Int) : List Int → Option D
  | [] => none
  | a :: l => some (.int (f (a :: l)))
def fMin : List D → Option D
  | [.int i, .int j] => some (.int (if j < i then j else i))
  | [.lst ds] => (asIs ds).bind (nz1 minI)
  | _ => none
def rMinA (K : PySem.W.Frag) : List V → Hp → VK → Prop := fun xs H Q => (∃ i j, xs = [.int i, .int j] ∧ Q (.int (if j < i then j else i)) H) ∨ rMin K xs H Q
theorem cr_minA {X : Cx} (hc : X.calm = true) : CallR X (.builtin "min") (rMinA X.K) := callR_or (call_min2 hc) (cr_min hc)
theorem sp_min {K : PySem.W.Frag} {kap : Kp} : SPN K kap (rMinA K) fMin := by
  intro F H xs as z Q sub nt ra e q
  unfold fMin at e
  split at e
  · cases e
    obtain ⟨x, y, rfl, r1, r2⟩ := two_of ra
    exact .inl ⟨_, _, by rw [r1.int, r2.int], q _ F H New.refl sub (.int _)⟩
  · rename_i ds
    obtain ⟨ns, e1, e2⟩ := bind_some e
    obtain ⟨x, rfl, r⟩ := one_of ra
    obtain ⟨p, vs, rfl, h1, r1⟩ := r.lst sub
    have := reps_ints r1 e1
    subst this
    cases ns with
    | nil => cases e2
    | cons a l =>
      cases e2
      refine .inr ⟨p, a :: l, rfl, SqL.of h1, by simp, fun m hm hy => ?_⟩
      obtain ⟨k1, k2⟩ := minI_spec (l := a :: l) (by simp)
      have : m = minI (a :: l) := Int.le_antisymm (hy _ k1) (k2 m hm)
      rw [this]
      exact q _ F H New.refl sub (.int _)
  · cases e
/-! ### reversed(range(n)) -/
def revRA (d : D) (de : DEnv) : Rs (List D) := match d with
  | .int j => if -(2 ^ 62) ≤ j ∧ j < 2 ^ 62 then .ok (rangeD 0 j.toNat).reverse de else .bad
  | _ => .bad
def vRevR (ev : DEnv → Rs D) (de : DEnv) : Rs (List D) := (ev de).bind fun d de1 => revRA d de1
theorem rgl (lo : Int) (n : Nat) : (rangeD lo n).length = n := by simp [rangeD]
section
variable {K : PySem.W.Frag} {kap : Kp} {F : Hp}
theorem itc_rev (n : Nat) : ItOk K kap (Itc ((0 : Int) + ((n : Nat) : Int) - 1) (-1) n) F (rangeD 0 n).reverse := fun i F2 H2 e1 e2 => by
  have hl : (rangeD 0 n).reverse.length = n := by rw [List.length_reverse, rgl]
  refine ⟨fun hi => by rw [hl] at hi; exact hi, fun d hd => ?_⟩
  have il : i < n := by rw [← hl]; exact (List.getElem?_eq_some_iff.mp hd).1
  refine ⟨il, fun x H' ⟨e, ey⟩ => ?_⟩
  subst e ey
  have hv : d = .int ((0 : Int) + (n : Int) - 1 + (i : Int) * (-1)) := by
    rw [List.getElem?_reverse (by rw [rgl]; exact il), rgl] at hd
    unfold rangeD at hd
    rw [List.getElem?_map, List.getElem?_range (by omega)] at hd
    cases hd
    have e : (0 : Int) + ((n - 1 - i : Nat) : Int) = (0 : Int) + (n : Int) - 1 + (i : Int) * (-1) := by omega
    exact congrArg D.int e
  rw [hv]
  exact ⟨F2, New.refl, e2, .int _⟩
end
section
variable {kap : Kp} {xi : Xi} {X : Cx} {W : WX} {tg e : Expr} {t : WX → TE} {ev : DEnv → Rs D} {pos p p2 pos2 : Pos}
theorem jiRevR (hm : X.mg "range" = none) (hm2 : X.mg "reversed" = none) (h : JE kap xi X W e t ev) (hg : Gl X "range" := by rfl) (hg2 : Gl X "reversed" := by rfl) (hs : starEach [e] X.env = (false, eval e X.env) :: starEach [] X.env := by rfl)
    (hs2 : starEach [.Call (.Name "range" p) [e] [] pos] X.env = (false, eval (.Call (.Name "range" p) [e] [] pos) X.env) :: starEach [] X.env := by rfl) :
    JI kap xi X W tg (.Call (.Name "reversed" p2) [.Call (.Name "range" p) [e] [] pos] [] pos2) (fun W => iRevR (tRg1 (t W))) (vRevR ev) := ⟨pi_revR hg2 hm2 (prg_1 hg hm h.p hs) hs2, by
  intro W F H sg de O Q R hp
  refine h.s.bind R hp fun v d F1 H1 de1 O1 R1 g1 r _ hp => ?_
  cases r with
  | int j =>
    unfold revRA at hp
    dsimp only at hp
    split at hp
    · rename_i hh
      have e : (j - 0).toNat = j.toNat := by rw [Int.sub_zero]
      refine ⟨j, rfl, by decide, by decide, hh.1, hh.2, ?_⟩
      rw [e]
      exact hp.done R1 New.refl R1.sub (itc_rev j.toNat)
    · exact hp.elim
  | _ => exact hp.elim⟩
end
end DL
set_option maxRecDepth 100000
set_option maxHeartbeats 2000000
set_option autoImplicit false
/-! list(d) and len(d) of a dict with nested keys -/
namespace DL
open PySem L2 PySem.Spec PyProof.Rows
section
variable {X : Cx}
def fListN : List D → Option D
  | [.dn ds] => some (.lst (ds.map (·.1)))
  | [.dk []] => some (.lst [])
  | xs => fList xs
/-! ### len(d) -/
def rLenN : List V → Hp → VK → Prop := fun xs H Q => ∃ (a : Addr) (o : Obj) (es : List NEnt), xs = [V.ref a] ∧ H a = some (exO a o) ∧ DOb o es ∧ (a == sysModules) = false ∧ Q (.int es.length) H
theorem call_lenN : CallR X (.builtin "len") rLenN := by
  intro pins s σ H xs us Q I r h
  obtain ⟨a, o, es, rfl, hd, d, hm, q⟩ := h
  obtain ⟨u, rfl, rx⟩ := vals1 r
  cases rx
  obtain ⟨ea, ep, hdt, hes⟩ := d.dat
  have hT : s.TypeIs (.ref a) "dict" := ⟨o, exO_get I hd, d.ex.1⟩
  have hz := ent_size hes
  have hl : es.length ≤ 16777216 := by have := d.len; rw [sizeLine_eq] at this; exact this
  refine Calls.call_function_entry kind_len plain_len entry_len (args_len1 _) ?_
  unfold Builtin.«len»
  refine wpAny_bind (m := oneArg "len" _) (wpAny_pure ?_)
  refine wpAny_bind (m := callSpecial? (.ref a) (Str.ofString "__len__")) (wpAny_callSpecial?_slot (name := Str.ofString "__len__") hT F.slot_dict_len (call_len_raw (es := ea) (ep := ep) hm ⟨o, exO_get I hd, d.ex, hdt⟩ ?_))
  refine wpAny_bind (wpAny_holding (wpAny_pure ?_))
  refine wpAny_bind (wpAny_letGo ?_)
  show wpAny _ _ (if (ea.size : Int) < 0 then _ else _) _ _ _
  rw [if_neg (by omega)]
  show wpAny _ _ (if (ea.size : Int) ≥ 2 ^ 63 then _ else _) _ _ _
  rw [if_neg (by rw [hz]; omega)]
  refine wpAny_bind (wpAny_mkInt (wpAny_pure ⟨_, rfl, .int es.length, H, (I.tok _).tok _, ⟨_, by rw [hz]⟩, q⟩))
def fLenN : List D → Option D
  | [.dn ds] => some (.int ds.length)
  | xs => fLen xs
def rLenNA (K : PySem.W.Frag) : List V → Hp → VK → Prop := fun xs H Q => rLenN xs H Q ∨ rLenA K xs H Q
theorem call_lenNA : CallR X (.builtin "len") (rLenNA X.K) := callR_or call_lenN call_lenA
theorem sp_lenN {K : PySem.W.Frag} {kap : Kp} : SPN K kap (rLenNA K) fLenN := by
  intro F H xs as z Q sub nt ra e q
  unfold fLenN at e
  split at e
  · cases e
    obtain ⟨x, rfl, r⟩ := one_of ra
    obtain ⟨p, o, es, vs, rfl, h1, h2, h3, h4, h5, h6, h7⟩ := r.dn sub
    rename_i ds
    have hl : es.length = ds.length := by simpa using congrArg List.length h5
    refine .inl ⟨p, o, es, rfl, h1, h2, h3, ?_⟩
    rw [hl]
    exact q _ F H New.refl sub (.int _)
  · exact .inr (sp_len F H xs as z Q sub nt ra e q)
end
/-! ### a dict's truth -/
section
variable {X : Cx} {kap : Kp} {xi : Xi} {W : WX}
/-- a value's truth, dicts told by their object included -/
def truN : D → Option Bool
  | .dn ds => some (!ds.isEmpty)
  | d => truD d
def vTruN (oa : Op) (de : DEnv) : Rs Bool := (oa.run de).bind fun fa de1 => ofO ((fa de1).bind truN) de1
@[simp] theorem vTruN_eq {oa : Op} {de : DEnv} : vTruN oa de = (oa.run de).bind fun fa de1 => ofO ((fa de1).bind truN) de1 := Eq.trans rfl rfl
end
/-! ### {}: a dict told by its object -/
def tDN0 : TE := fun _ H Q => ∀ (p : Addr) (o : Obj), H p = none → (p == sysModules) = false → DOb o [] → Q (.ref p) (upd H p (exO p o))
section
variable {X : Cx} {kap : Kp} {xi : Xi} {W : WX} {pos : Pos}
theorem pe_dn0 : PE X (.Dict [] [] pos) tDN0 := ⟨fun pins s σ H Q I h =>
  wpAny_Dict_empty ⟨.ref s.heap.objs.size, _, I.laid (a := s.heap.objs.size) (o := exO s.heap.objs.size { cls := .type "dict", data := .dict #[] }) (t' := s.toks) (fun _ _ q => Heap.get?_push_of_some _ q) (Nat.le_refl _) (exO_ok (Heap.get?_push_size _ rfl)), rfl, h _ _ (I.hok.fresh (Nat.le_refl _)) (beq_eq_false_iff_ne.mpr (Ne.symm (Nat.ne_of_lt I.big))) ⟨⟨rfl, rfl, rfl⟩, ⟨#[], 0, rfl, rfl⟩, List.nodup_nil, (fun _ h => nomatch h), Nat.zero_le _⟩⟩⟩
theorem jDn0 : JF kap xi X W (.Dict [] [] pos) (fun _ => tDN0) (vC (.dn [])) := ⟨pe_dn0, by
  intro W F H sg de O Q R hp p o hq hm d
  obtain ⟨n, s2⟩ := new_fresh (o := exO p o) R.sub hq (.dict (let ⟨es, ep, e, _⟩ := d.dat; ⟨es, ep, e⟩))
  exact hp.done R n s2 (fresh_new R n s2 hq ⟨o, [], [], upd_same, d, hm, .nil, rfl, .nil, .nil⟩) fun p' e => by cases e; exact hq⟩
end
end DL
set_option maxRecDepth 100000
set_option maxHeartbeats 4000000
set_option autoImplicit false
/-! isinstance(e, C), e the error that the suite holds, with a dict or without one -/
namespace DL
open PySem L2 PySem.Spec PyProof.Rows
def vIsX (i : Nat) (tab : Nat → Option Bool) (de : DEnv) : Rs D := match de[i]? with
  | some (.ex c _) => ofO ((tab c).map .bl) de
  | _ => .bad
def vIsXA (tab : Nat → Option Bool) (de : DEnv) : Option Sl → Rs D
  | some (.ex c _) => ofO ((tab c).map .bl) de
  | _ => .bad
@[simp] theorem vIsX_eq {i : Nat} {tab : Nat → Option Bool} {de : DEnv} : vIsX i tab de = vIsXA tab de de[i]? := Eq.trans rfl rfl
@[simp] theorem vIsXA_ex {tab : Nat → Option Bool} {de : DEnv} {c : Nat} {fs : List (Str × D)} : vIsXA tab de (some (.ex c fs)) = ofO ((tab c).map .bl) de := Eq.trans rfl rfl
/-! ### xs[::-1] -/
def revLA (d : D) (de : DEnv) : Rs D := match d with
  | .lst xs => .ok (.lst xs.reverse) de
  | _ => .bad
def vRevL (ev : DEnv → Rs D) (de : DEnv) : Rs D := (ev de).bind fun d de1 => revLA d de1
@[simp] theorem vRevL_eq {ev : DEnv → Rs D} {de : DEnv} : vRevL ev de = (ev de).bind fun d de1 => revLA d de1 := Eq.trans rfl rfl
@[simp] theorem revLA_lst {xs : List D} {de : DEnv} : revLA (.lst xs) de = .ok (.lst xs.reverse) de := Eq.trans rfl rfl
end DL
set_option maxRecDepth 100000
set_option maxHeartbeats 2000000
set_option autoImplicit false
/-! while -/
namespace DL
open PySem L2
end DL
set_option maxRecDepth 100000
set_option maxHeartbeats 2000000
set_option autoImplicit false
/-! lists that stand within a thing while it is made: x.f.append(e), x.f.append([]), x.f[-1].append(e) -/
namespace DL
open PySem L2
/-- nobody's last list stands in g -/
def noKid (g : Nat) (de : DEnv) : Bool := de.all fun s => match s with
  | .ll _ h => h != g
  | _ => true
def gApp (g : Nat) (f : Str) (d : D) (de : DEnv) : Option Sl → Rs D
  | some (.fl (.lst ds) f1) => if f1 = f ∧ ds.length < 16777216 ∧ noKid g de = true then .ok .non (de.set g (.fl (.lst (ds ++ [d])) f)) else .bad
  | _ => .bad
def atSelf (cl : List Nat) (f : Str) : Option Sl → Option Sl → Bool
  | some (.cn (.obj c _)), some (.fl (.lst _) f1) => cl.contains c && decide (f1 = f)
  | _, _ => false
def vGApp (i : Nat) (cl : List Nat) (f : Str) (g : Nat) (ev : DEnv → Rs D) (de : DEnv) : Rs D :=
  if atSelf cl f de[i]? de[g]? = true then (ev de).bind fun d de1 => gApp g f d de1 de1[g]? else .bad
def closeKid (g l : Nat) (de : DEnv) : Option DEnv := match de[l]? with
  | some .no => some de
  | some (.ll (.lst dl) h) => (match de[g]? with
    | some (.fl (.lst ds) f) => if h = g ∧ ds.length ≠ 0 ∧ noKid g (de.set l .no) = true then some ((de.set l .no).set g (.fl (.lst (ds.dropLast ++ [.lst dl])) f)) else none
    | _ => none)
  | _ => none
def isNo : Option Sl → Bool
  | some .no => true
  | _ => false
def gNew (g l : Nat) (f : Str) (d : D) (de : DEnv) : Option Sl → Rs D
  | some (.fl (.lst ds) f1) => if f1 = f ∧ ds.length < 16777216 ∧ noKid g de = true ∧ isNo de[l]? = true ∧ l ≠ g ∧ isLst d = true then .ok .non ((de.set g (.fl (.lst (ds ++ [.any])) f)).set l (.ll d g)) else .bad
  | _ => .bad
def vGNew (i : Nat) (cl : List Nat) (f : Str) (g l : Nat) (ev : DEnv → Rs D) (de : DEnv) : Rs D :=
  if atSelf cl f de[i]? de[g]? = true then (ev de).bind fun d de1 => (match closeKid g l de1 with
    | some de2 => gNew g l f d de2 de2[g]?
    | none => .bad) else .bad
def gLast (g l : Nat) (f : Str) (d : D) (de : DEnv) : Option Sl → Option Sl → Rs D
  | some (.ll (.lst ds) h), some (.fl _ f1) => if h = g ∧ f1 = f ∧ ds.length < 16777216 ∧ noKid l de = true then .ok .non (de.set l (.ll (.lst (ds ++ [d])) g)) else .bad
  | _, _ => .bad
def kidAt (g : Nat) : Option Sl → Bool
  | some (.ll (.lst _) h) => decide (h = g)
  | _ => false
def vaAt : Option Sl → Option D
  | some (.va d) => some d
  | _ => none
def vGLast (i : Nat) (cl : List Nat) (f : Str) (g l j : Nat) (de : DEnv) : Rs D :=
  if atSelf cl f de[i]? de[g]? = true ∧ kidAt g de[l]? = true then (match vaAt de[j]? with
    | some d => gLast g l f d de de[l]? de[g]?
    | none => .bad) else .bad
end DL
set_option maxRecDepth 100000
set_option maxHeartbeats 2000000
set_option autoImplicit false
/-! a thing is made whose fields are lists that are filled while it is made -/
namespace DL
open PySem L2
mutual
def plD : D → Bool
  | .non => true
  | .bl _ => true
  | .int _ => true
  | .str _ => true
  | .tup ds => plDs ds
  | .lst ds => plDs ds
  | _ => false
def plDs : List D → Bool
  | [] => true
  | d :: ds => plD d && plDs ds
end
def blkIn (i : Nat) (f1 f2 : Str) (g1 g2 c : Nat) (fs : List (Str × D)) (de : DEnv) : DEnv :=
  ((de.set i (.cn (.obj c (putD f2 .any (putD f1 .any fs))))).set g1 (.fl (.lst []) f1)).set g2 (.fl (.lst []) f2)
def isCn (c : Nat) : Option Sl → Bool
  | some (.cn (.obj c' _)) => c' == c
  | _ => false
def blkEnd (i : Nat) (f1 f2 : Str) (c : Nat) (fs : List (Str × D)) (de : DEnv) : Option Sl → Option Sl → Ot
  | some (.fl (.lst a) h1), some (.fl (.lst b) h2) => if h1 = f1 ∧ h2 = f2 ∧ isCn c de[i]? = true ∧ plDs a = true ∧ plDs b = true then .nx ((List.replicate de.length .no).set i (.pn (.obj c (putD f2 (.lst b) (putD f1 (.lst a) fs))))) else .bad
  | _, _ => .bad
def blkOut (i : Nat) (f1 f2 : Str) (g1 g2 l c : Nat) (fs : List (Str × D)) : Ot → Ot
  | .nx de => (match closeKid g2 l de with
    | some de2 => blkEnd i f1 f2 c fs de2 de2[g1]? de2[g2]?
    | none => .bad)
  | _ => .bad
def blkRun (i : Nat) (cl : List Nat) (f1 f2 : Str) (g1 g2 l : Nat) (eb : DEnv → Ot) (de : DEnv) : Option Sl → Ot
  | some (.pn (.obj c fs)) => if cl.contains c = true ∧ fs.length < 900 ∧ calmD de = true ∧ isNo de[g1]? = true ∧ isNo de[g2]? = true ∧ g1 ≠ g2 ∧ i ≠ g1 ∧ i ≠ g2 then blkOut i f1 f2 g1 g2 l c fs (eb (blkIn i f1 f2 g1 g2 c fs de)) else .bad
  | _ => .bad
def vBlk (i : Nat) (cl : List Nat) (f1 f2 : Str) (g1 g2 l : Nat) (eb : DEnv → Ot) (de : DEnv) : Ot := blkRun i cl f1 f2 g1 g2 l eb de de[i]?
end DL
set_option maxRecDepth 100000
set_option maxHeartbeats 2000000
set_option autoImplicit false
/-! lambdas: a lambda's own promise; the heap without the cells that it captured -/
namespace DL
open PySem L2 LamX NdefX PySem.Spec PyProof.Rows
mutual
def nfD : D → Bool
  | .fn _ _ => false
  | .tup ds => nfDs ds
  | .lst ds => nfDs ds
  | .scr ds => nfDs ds
  | .dk ks => nfK ks
  | .dn ks => nfN ks
  | .obj _ fs => nfF fs
  | _ => true
def nfDs : List D → Bool
  | [] => true
  | d :: ds => nfD d && nfDs ds
def nfK : List (Key × D) → Bool
  | [] => true
  | (_, d) :: ds => nfD d && nfK ds
def nfN : List (D × D) → Bool
  | [] => true
  | (k, d) :: ds => nfD k && (nfD d && nfN ds)
def nfF : List (Str × D) → Bool
  | [] => true
  | (_, d) :: ds => nfD d && nfF ds
end
/-- cells stand at cs -/
def AtCells (H : Hp) (cs : List Addr) : Prop := ∀ c ∈ cs, ∃ (o : Obj) (w : Option Value), H c = some (ObjX c o) ∧ o.data = .cell w
theorem AtCells.mono {H H' : Hp} {cs : List Addr} (h : AtCells H cs) (e : Same H H') : AtCells H' cs := fun c hc => let ⟨o, w, a, b⟩ := h c hc; ⟨o, w, e _ _ a, b⟩
end DL
set_option maxRecDepth 100000
set_option maxHeartbeats 2000000
set_option autoImplicit false
/-! lambdas: the promise, by the body -/
namespace DL
open PySem L2 LamX NdefX PySem.Spec PyProof.Rows
/-- what is wanted behind a lambda's call -/
def LamQ (K : PySem.W.Frag) (kap : Kp) (F H : Hp) (Q : VK) : Fo → Prop
  | .ret d none => nfD d = true ∧ ∀ v F' H', FPost K kap F H F' H' none none → Rep K kap F' v d → Q v H'
  | _ => False
structure LamJ (P : Program) (w : World) (K : PySem.W.Frag) (mg : Str → Option Value) (base : Heap) (kap : Kp) (k j n : Nat) (m : List D → Fo) : Prop where
  run : ∀ (A : Around) (outer : List Env) (s : Shared) (F H : Hp) (f : Addr) (us : List Value) (vs : List V) (ds caps : List D) (Q : VK) (E : XK), RoomG k A → Env0 P w K mg base A outer s H → St0 kap F H → Rep K kap F (.ref f) (.fn j caps) → Reps K kap F vs ds → Vals vs us → ds.length = n →
    nfDs ds = true → nfDs caps = true → LamQ K kap F H Q (m (ds ++ caps)) → codeAny (model P w) A (.call (.ref f) ⟨us, []⟩) (CR (L2.CX P w) outer P w H s Q E) s
end DL
set_option maxRecDepth 100000
set_option maxHeartbeats 2000000
set_option autoImplicit false
/-! lambdas: made and handed to a def; called there -/
namespace DL
open PySem L2 LamX NdefX PySem.Spec PyProof.Rows
end DL
set_option maxRecDepth 100000
set_option maxHeartbeats 2000000
set_option autoImplicit false
namespace DL
open PySem L2 LamX NdefX PySem.Spec PyProof.Rows
end DL
set_option maxRecDepth 100000
set_option maxHeartbeats 2000000
set_option autoImplicit false
/-! lambdas, as data -/
namespace DL
open PySem L2 LamX NdefX PySem.Spec PyProof.Rows
def lamCap (de : DEnv) : List Nat → Option (List D)
  | [] => some []
  | j :: js => (vaAt de[j]?).bind fun d => (lamCap de js).map (d :: ·)
def lamRet (de : DEnv) : Fo → Rs D
  | .ret d none => if nfD d = true then .ok d de else .bad
  | .retF d none => if nfD d = true then .ok d de else .bad
  | _ => .bad
def callLam (n : Nat) (m : List D → Fo) (dcs : List D) (j : Nat) (de : DEnv) : Option (List D) → Option (List D) → Rs D
  | some ds, some caps => if (ds.length + 1) + dcs.length = n then lamRet de (m ((.fn j caps :: ds) ++ dcs)) else .bad
  | _, _ => .bad
def wCallLam (n : Nat) (m : List D → Fo) (dcs : List D) (j : Nat) (js : List Nat) (ea : DEnv → Rs (List CA)) (de : DEnv) : Rs D :=
  (ea de).bind fun cs de1 => callLam n m dcs j de1 (argD none cs de1) (lamCap de1 js)
section
variable {K : PySem.W.Frag} {kap : Kp} {xi : Xi} {F H : Hp} {sg : L2.St} {de : DEnv} {O : Own?} {W : WX}
/-- a fresh answer is frozen -/
theorem FPost.add {F' H' : Hp} {p : Addr} {o : HO} (f : FPost K kap F H F' H' none none) (hf : F' p = none) (ho : H' p = some o) (hH : H p = none) (hn : ∀ ps, o ≠ .tbl ps) : FPost K kap F H (upd F' p o) H' none none where
  ex := f.ex.trans (same_upd hf)
  sub := fun a u e => by
    by_cases z : a = p
    · subst z; rw [upd_same] at e; cases e; exact ho
    · rw [upd_ne z] at e; exact f.sub a u e
  keep := f.keep
  dom := f.dom
  fnew := fun a e => by
    by_cases z : a = p
    · subst z; exact .inr hH
    · rw [upd_ne z] at e; exact f.fnew a e
  own := fun p z => by cases z
  nt := f.nt.upd hn
  tab := f.tab
end
end DL
set_option maxRecDepth 100000
set_option maxHeartbeats 2000000
set_option autoImplicit false
/-! lambdas: f(..), f a parameter -/
namespace DL
open PySem L2 LamX NdefX PySem.Spec PyProof.Rows
def lamRetV (de : DEnv) : Fo → Rs D
  | .ret d none => if nfD d = true then .ok d de else .bad
  | _ => .bad
def callV (tab : Nat → Option (Nat × (List D → Fo))) (ds : List D) (de : DEnv) : Option Sl → Rs D
  | some (.va (.fn j caps)) => (match tab j with
    | some (n, m) => if ds.length = n ∧ nfDs ds = true ∧ nfDs caps = true then lamRetV de (m (ds ++ caps)) else .bad
    | none => .bad)
  | _ => .bad
def fnAtD : Option Sl → Bool
  | some (.va (.fn _ _)) => true
  | _ => false
def vCallV (i : Nat) (tab : Nat → Option (Nat × (List D → Fo))) (ea : DEnv → Rs (List D)) (de : DEnv) : Rs D :=
  if fnAtD de[i]? = true then (ea de).bind fun ds de1 => callV tab ds de1 de1[i]? else .bad
end DL
set_option maxRecDepth 100000
set_option maxHeartbeats 2000000
set_option autoImplicit false
/-! the end of a law in whose code lambdas are made -/
namespace DL
open PySem L2 LamX NdefX PySem.Spec PyProof.Rows
end DL
namespace DL
open PySem L2 LamX NdefX PySem.Spec PyProof.Rows
theorem LamJ.mono {P : Program} {w : World} {K : PySem.W.Frag} {mg : Str → Option Value} {base : Heap} {kap : Kp} {i k j n : Nat} {m : List D → Fo} (l : LamJ P w K mg base kap i j n m) (h : i ≤ k) : LamJ P w K mg base kap k j n m := ⟨fun A outer s F H f us vs ds caps Q E hr => l.run A outer s F H f us vs ds caps Q E (hr.mono h)⟩
end DL
set_option maxRecDepth 100000
set_option maxHeartbeats 2000000
set_option autoImplicit false
/-! f(e, .., k = v, ..): a def called with keywords -/
namespace DL
open PySem L2 PySem.Spec PyProof.Rows
def wCallK (n : Nat) (mu : Option Nat) (m : List D → Fo) (ar : List D → List D → List D) (ea ek : DEnv → Rs (List D)) (de : DEnv) : Rs D :=
  (ea de).bind fun ds de1 => (ek de1).bind fun zs de2 => callC n mu m [] ((ar ds zs).map CA.v) de2
def wCallKF (n : Nat) (mu : Option Nat) (m : List D → Fo) (ar : List D → List D → List D) (ea ek : DEnv → Rs (List D)) (de : DEnv) : Rs D :=
  (ea de).bind fun ds de1 => (ek de1).bind fun zs de2 => callCF n mu m [] ((ar ds zs).map CA.v) de2
section
variable {n : Nat} {mu : Option Nat} {m : List D → Fo} {ar : List D → List D → List D} {ea ek : DEnv → Rs (List D)} {de : DEnv}
@[simp] theorem ph1 : wCallK n mu m ar ea ek de = (ea de).bind fun ds de1 => (ek de1).bind fun zs de2 => callC n mu m [] ((ar ds zs).map CA.v) de2 := Eq.trans rfl rfl
@[simp] theorem ph2 : wCallKF n mu m ar ea ek de = (ea de).bind fun ds de1 => (ek de1).bind fun zs de2 => callCF n mu m [] ((ar ds zs).map CA.v) de2 := Eq.trans rfl rfl
end
end DL
set_option maxRecDepth 100000
set_option maxHeartbeats 2000000
set_option autoImplicit false
/-! x = {k: v for ..} on one line, x a local that nothing captures -/
namespace DL
open PySem L2 PySem.Spec PyProof.Rows
end DL
set_option maxRecDepth 100000
set_option maxHeartbeats 2000000
set_option autoImplicit false
/-! (a, b, ..) = a tuple or a list of that length -/
namespace DL
open PySem L2 PySem.Spec PyProof.Rows
def tgSq (n : Nat) (g : List D → DEnv → Option DEnv) (d : D) (de : DEnv) : Option DEnv := match d with
  | .tup ds => if ds.length = n then g ds de else none
  | .lst ds => if ds.length = n then g ds de else none
  | .scr ds => if ds.length = n then g ds de else none
  | _ => none
section
variable {n : Nat} {gs : List D → DEnv → Option DEnv} {ds : List D} {de : DEnv}
@[simp] theorem ph3 : tgSq n gs (.tup ds) de = if ds.length = n then gs ds de else none := Eq.trans rfl rfl
@[simp] theorem ph4 : tgSq n gs (.lst ds) de = if ds.length = n then gs ds de else none := Eq.trans rfl rfl
@[simp] theorem ph5 : tgSq n gs (.scr ds) de = if ds.length = n then gs ds de else none := Eq.trans rfl rfl
end
end DL
set_option maxRecDepth 100000
set_option maxHeartbeats 2000000
set_option autoImplicit false
/-! dict(d) of a dict with nested keys: the hashes of its keys are apart -/
namespace DL
open PySem L2 PySem.Spec PyProof.Rows
section
variable {prog : Program} {w : World} {A : Around} {E : Value → Shared → Prop} {s : Shared}
theorem dict_ofH {o : Addr} {more : List NEnt} {Q : Value → Shared → Prop} (hu : A.units + 64 < cLine) (hoS : (o == sysModules) = false) (ho : s.heap.DictOfH (nestedKind prog w) o more) (hsz : more.length ≤ sizeLine)
    (hty : ∀ x ∈ more, s.TypeIs (.ref x.2.1) "tuple") (hap : (more.map fun x => (nestedKind prog w).hash x.1).Nodup)
    (hst : ∀ h' : Heap, (∀ b o, s.heap.get? b = some o → h'.get? b = some o) → ∀ x ∈ more, (nestedKind prog w).is h' x.1 x.2.1)
    (h : ∀ h' : Heap, h'.DictOfH (nestedKind prog w) s.heap.objs.size more → (∀ b o, s.heap.get? b = some o → h'.get? b = some o) → Q (.ref s.heap.objs.size) { s with heap := h' }) :
    wpAny (model prog w) A (call (.type "dict") [.ref o]) Q E s := by
  refine callType_codes (Q₁ := fun obj s₁ => obj = .ref s.heap.objs.size ∧ s₁ = { s with heap := s.heap.push { cls := .type "dict", data := .dict #[] } }) F.kt_called_dict (F.kt_typeCall_dict_1 _) F.entry_dict_init (kt_code_dict_new _ ⟨rfl, rfl⟩) ?_
  rintro obj s₁ ⟨rfl, rfl⟩
  have hnew : (s.heap.push { cls := .type "dict", data := .dict #[] }).DictOfH (nestedKind prog w) s.heap.objs.size [] := Heap.DictOfH.new s.heap
  have hpush : ∀ (b : Addr) (o : Obj), s.heap.get? b = some o → (s.heap.push { cls := .type "dict", data := .dict #[] }).get? b = some o := fun b o e => Heap.get?_push_of_some _ e
  have hlt := ho.lt_size
  have ho' : (s.heap.push { cls := .type "dict", data := .dict #[] }).DictOfH (nestedKind prog w) o more := ho.at' (fun o e => hpush _ o e) (hst _ hpush)
  have hdo : s.heap.objs.size ≠ o := fun e => absurd hlt (by rw [e]; exact Nat.lt_irrefl _)
  refine ⟨hnew.typeIs (s := { s with heap := s.heap.push { cls := .type "dict", data := .dict #[] } }), F.args_dict_init_2 _ _, ?_⟩
  unfold Builtin.«dict.__init__»
  refine wpAny_bind ?_
  unfold Builtin.Dict.selfAndRest
  refine wpAny_bind (wpAny_notOrdered_dict (hnew.typeIs (s := { s with heap := s.heap.push { cls := .type "dict", data := .dict #[] } })) ?_)
  show wpAny _ _ (pure (s.heap.objs.size, [Value.ref o])) _ _ _
  refine wpAny_pure ?_
  show wpAny _ _ (Builtin.Dict.updateFrom "dict.__init__" s.heap.objs.size (.ref o) [] .none) _ _ _
  refine updateFrom_dictH (A := A.in1) (knd := nestedKind prog w) .none ?_ hdo hoS hnew ho' (.inr ⟨fun x hx => ?_, hap⟩) (by simpa using hsz) fun h' hd' _ hs' => ?_
  · show A.units + 1 + 1 + 8 < cLine
    omega
  · obtain ⟨y, hy, hc⟩ := hty x hx
    exact ⟨y, hpush _ _ hy, hc⟩
  · have hn : (more.map (·.1)).Nodup := ho.nodup
    rw [storedAllH_nil_of_nodup more hn] at hd'
    exact ⟨rfl, h h' hd' fun b o1 e => (hs'.2 b (Nat.ne_of_lt (Heap.lt_size e))).trans (hpush b o1 e)⟩
end
section
variable {X : Cx}
def rDictN (K : PySem.W.Frag) : List V → Hp → VK → Prop := fun xs H Q => ∃ (a : Addr) (o : Obj) (es : List NEnt), xs = [.ref a] ∧ H a = some (exO a o) ∧ DOb o es ∧ (a == sysModules) = false ∧ KeysA K H es ∧ (∀ x ∈ es, ∃ ks, x.1 = .tup ks) ∧ (es.map fun x => nh x.1).Nodup ∧
  ∀ (l : Addr) (o' : Obj), H l = none → (l == sysModules) = false → DOb o' es → Q (.ref l) (upd H l (exO l o'))
theorem call_dictN (hu : X.A.units + 64 < cLine) : CallR X (.type "dict") (rDictN X.K) := by
  intro pins s σ H xs us Q I r h
  obtain ⟨a, o, es, rfl, hd, d, hm, hk, ht, hap, q⟩ := h
  obtain ⟨u, rfl, rx⟩ := vals1 r
  cases rx
  have dd := dob_of I hd d hk
  refine dict_ofH hu hm dd d.len (fun x hx => ?_) ?_ (fun h' k x hx => ?_) fun h' hd' hk' => ?_
  · obtain ⟨ks, e⟩ := ht x hx
    have := hk x hx
    rw [e] at this
    cases this with
    | tup t r =>
      obtain ⟨its, rv, ⟨o, ho, hc, n, hd⟩, _⟩ := I.tuple t
      exact ⟨o, ho, hc⟩
  · have e : (es.map fun x => (nestedKind X.prog X.w).hash x.1) = es.map fun x => nh x.1 := List.map_congr_left fun x hx => by
      have := d.ok x hx
      unfold okK at this
      rw [Bool.and_eq_true] at this
      exact nh_eq X.w x.1 this.1
    rw [e]
    exact hap
  · obtain ⟨_, _, _, _, _, _, _, his, _⟩ := dd
    exact ⟨NestedIs.at (fun a o _ _ e _ => k a o e) _ _ (his x hx).1, (his x hx).2⟩
  · obtain ⟨o', ea, ep, ho', hc', hdat', he', his', hn'⟩ := hd'
    have hob : DOb o' es := ⟨hc', ⟨ea, ep, hdat', by rw [he', ents_eq d.ok]⟩, d.nod, d.ok, d.len⟩
    exact ⟨.ref s.heap.objs.size, _, I.laid (t' := s.toks) (a := s.heap.objs.size) (o := exO s.heap.objs.size o') hk' (Nat.le_refl _) (exO_ok ho'), rfl, q _ _ (I.hok.fresh (Nat.le_refl _)) (beq_eq_false_iff_ne.mpr (Ne.symm (Nat.ne_of_lt I.big))) hob⟩
/-- the hashes of the keys are apart -/
def apartD (ds : List (D × D)) : Bool := decide ((ds.map fun p => (keyN p.1).map nh).Nodup)
def fDictN : List D → Option D
  | [.dn ds] => if apartD ds = true then some (.dn ds) else none
  | _ => none
theorem sf_dictN {K : PySem.W.Frag} {kap : Kp} : SFN K kap (rDictN K) fDictN := by
  intro F H xs as z Q sub nt ra e q
  unfold fDictN at e
  split at e
  · rename_i ds
    split at e
    · rename_i ap
      cases e
      obtain ⟨x, rfl, r⟩ := one_of ra
      obtain ⟨p, o, es, vs, rfl, h1, h2, h3, h4, h5, h6, h7⟩ := r.dn sub
      have hk := keys_rep sub h5 h6
      have hkn : ∀ x ∈ es, ∃ ks, x.1 = .tup ks := by
        intro x hx
        have hm : some x.1 ∈ ds.map (fun p => keyN p.1) := by rw [← h5]; exact List.mem_map.mpr ⟨x, hx, rfl⟩
        obtain ⟨y, _, hy⟩ := List.mem_map.mp hm
        obtain ⟨_, ks, _, _, e3, _⟩ := keyN_inv hy
        exact ⟨ks, e3⟩
      have hap : (es.map fun x => nh x.1).Nodup := by
        have h8 := of_decide_eq_true ap
        have e9 : (ds.map fun p => (keyN p.1).map nh) = (es.map fun x => nh x.1).map some := by
          have := congrArg (List.map fun o : Option NestedKey => o.map nh) h5
          simp only [List.map_map] at this ⊢
          exact this.symm
        rw [e9] at h8
        exact (List.pairwise_map.mp h8).imp fun h e => h (congrArg some e)
      refine ⟨p, o, es, rfl, h1, h2, h3, hk, hkn, hap, fun l o' hl hm d => ?_⟩
      obtain ⟨n, s2⟩ := new_fresh (o := exO l o') sub hl (.dict (let ⟨es, ep, e, _⟩ := d.dat; ⟨es, ep, e⟩))
      exact q _ _ n s2 hl ⟨o', es, vs, upd_same, d, hm, h4, h5, h6, h7⟩
    · cases e
  · cases e
end
end DL
set_option maxRecDepth 100000
set_option maxHeartbeats 2000000
set_option autoImplicit false
/-! the plain side: what the evaluators answer, for simp -/
namespace DL
open L2
section
variable {α β γ : Type} {a : α} {de : DEnv} {c : Nat} {fs : List (PySem.Str × D)} {f : α → DEnv → Rs β} {g : α → DEnv → Ot} {h : DEnv → Ot} {d d' : D}
@[simp] theorem ps1 : (Rs.ok a de).bind f = f a de := Eq.trans rfl rfl
@[simp] theorem ps2 : (Rs.ex (α := α) c fs de).bind f = .ex c fs de := Eq.trans rfl rfl
@[simp] theorem ps3 : (Rs.bad (α := α)).bind f = .bad := Eq.trans rfl rfl
@[simp] theorem ps4 : (Rs.ok a de).out g = g a de := Eq.trans rfl rfl
@[simp] theorem ps5 : (Rs.ex (α := α) c fs de).out g = .ex c fs de := Eq.trans rfl rfl
@[simp] theorem ps6 : (Rs.bad (α := α)).out g = .bad := Eq.trans rfl rfl
@[simp] theorem ps7 : (Ot.nx de).andThen h = h de := Eq.trans rfl rfl
@[simp] theorem ps8 : (Ot.ret d de).andThen h = .ret d de := Eq.trans rfl rfl
@[simp] theorem ps9 : (Ot.retF d de).andThen h = .retF d de := Eq.trans rfl rfl
@[simp] theorem ps10 : (Ot.brk de).andThen h = .brk de := Eq.trans rfl rfl
@[simp] theorem ps11 : (Ot.ct de).andThen h = .ct de := Eq.trans rfl rfl
@[simp] theorem ps12 : (Ot.ex c fs de).andThen h = .ex c fs de := Eq.trans rfl rfl
@[simp] theorem ps13 : Ot.bad.andThen h = .bad := Eq.trans rfl rfl
@[simp] theorem ps14 : ofO (some a) de = .ok a de := Eq.trans rfl rfl
@[simp] theorem ps15 : ofO (none : Option α) de = .bad := Eq.trans rfl rfl
end
def vVarA (k : Nat) (de : DEnv) : Option Sl → Rs D
  | some (.va d) => .ok d de
  | some (.ow d) => .ok d (de.set k (.va d))
  | some (.cn d) => .ok d de
  | _ => .bad
def vMoveA (k : Nat) (de : DEnv) : Option Sl → Rs D
  | some (.ow d) => .ok d (de.set k .no)
  | _ => .bad
def slotRunA (k : Nat) (de : DEnv) : Option D → Rs (DEnv → Option D)
  | some _ => .ok (slotAt k) de
  | none => .bad
def andA (ev2 : DEnv → Rs D) (d : D) (de : DEnv) : Rs D := match d with | .bl true => ev2 de | .bl false => .ok (.bl false) de | _ => .bad
def orA (ev2 : DEnv → Rs D) (d : D) (de : DEnv) : Rs D := match d with | .bl true => .ok (.bl true) de | .bl false => ev2 de | _ => .bad
def putLB (k : Nat) (v : D) (s : Sl) (xs : List D) (de : DEnv) : Option Nat → Ot
  | some j => .nx (de.set k (s.same (.lst (xs.set j v))))
  | none => .bad
def putLA (k : Nat) (v x : D) (de : DEnv) : Option (Sl × D) → Ot
  | some (s, .lst xs) => putLB k v s xs de ((asI x).bind fun k => ixN xs.length k)
  | _ => .bad
def fldA (k : Nat) (cl : List Nat) (nm : PySem.Str) (d : D) (de : DEnv) : Option (Sl × D) → Ot
  | some (s, .obj c fs) => if cl.contains c = true ∧ fs.length < 1000 then .nx (de.set k (s.same (.obj c (putD nm d fs)))) else .bad
  | _ => .bad
def cSlotA (k : Nat) (ec : DEnv → Rs (List CA)) (de : DEnv) : Option D → Rs (List CA)
  | some _ => (ec de).bind fun cs de2 => .ok (.s k :: cs) de2
  | none => .bad
def callA (n : Nat) (mu : Option Nat) (md : List D → Fo) (dcs : List D) (cs : List CA) (de : DEnv) : Option (List D) → Rs D
  | some ds => if ds.length + dcs.length = n ∧ okS mu (argS mu cs) = true then callE (argS mu cs) de (md (ds ++ dcs)) else .bad
  | none => .bad
def callFA (n : Nat) (mu : Option Nat) (md : List D → Fo) (dcs : List D) (cs : List CA) (de : DEnv) : Option (List D) → Rs D
  | some ds => if ds.length + dcs.length = n ∧ okS mu (argS mu cs) = true then callF (argS mu cs) de (md (ds ++ dcs)) else .bad
  | none => .bad
def putA (k : Nat) (d : D) (de : DEnv) : Option Sl → DEnv
  | some s => de.set k (s.same d)
  | none => de
def lastA : Option Sl → Option (Option D)
  | some (.pn d) => some (some d)
  | _ => none
def rngA (d : D) (de : DEnv) : Rs (List D) := match d with
  | .int j => if -(2 ^ 62) ≤ j ∧ j < 2 ^ 62 then .ok (rangeD 0 j.toNat) de else .bad
  | _ => .bad
def tryB (i : Nat) (es : DEnv → Ot) (c : Nat) (fs : List (PySem.Str × D)) (de1 : DEnv) : Option Bool → Ot
  | some true => if calmD (de1.set i .no) = true then offEx i (es (de1.set i (.ex c fs))) else .bad
  | some false => .ex c fs de1
  | none => .bad
def tryA (i : Nat) (mt : Nat → Option Bool) (es : DEnv → Ot) : Ot → Ot
  | .ex c fs de1 => tryB i es c fs de1 (mt c)
  | o => o
def tryD (es : DEnv → Ot) (c : Nat) (fs : List (PySem.Str × D)) (de1 : DEnv) : Option Bool → Ot
  | some true => noOut (es de1)
  | some false => .ex c fs de1
  | none => .bad
def tryC (mt : Nat → Option Bool) (es : DEnv → Ot) : Ot → Ot
  | .ex c fs de1 => tryD es c fs de1 (mt c)
  | o => o
def xfA (c : Nat) (f : PySem.Str) (de : DEnv) : Option Sl → Rs D
  | some (.ex c' fs) => if c' = c then ofO (fs.lookup f) de else .bad
  | _ => .bad
def mkA (de : DEnv) : Fo → Rs D
  | .ret .non (some d') => .ok d' de
  | .ex c' fs (some _) => .ex c' fs de
  | _ => .bad
def loopB (g : D → DEnv → Option DEnv) (tb : DEnv → Ot) (r : List D) : Ot → Ot
  | .nx de2 => vLoop g tb r de2
  | .ct de2 => vLoop g tb r de2
  | .brk de2 => .nx de2
  | o => o
def loopA (g : D → DEnv → Option DEnv) (tb : DEnv → Ot) (r : List D) : Option DEnv → Ot
  | some de1 => loopB g tb r (tb de1)
  | none => .bad
def finA (f : Option D → Fo) : Option (Option D) → Fo
  | some q => f q
  | none => .bad
section
variable {de : DEnv} {d d1 d2 : D} {i j : Int} {k m n : Nat} {e1 e2 : DEnv → Ot} {ev ev1 ev2 : DEnv → Rs D} {eb eb1 eb2 : DEnv → Rs Bool} {ea : DEnv → Rs (List D)} {ec : DEnv → Rs (List CA)} {o oa ob oc : Op} {os : List Op} {f g : D → D → Option D} {f1 : D → Option D} {fN : List D → Option D} {xs ys : List D} {x y : PySem.Str} {b b1 b2 : Bool} {c : Nat} {fs : List (PySem.Str × D)} {cl : List Nat} {nm : PySem.Str} {mu : Option Nat} {md : List D → Fo} {dcs : List D} {cs : List CA} {q : Option D} {s : Sl}
@[simp] theorem ps16 : vSeq e1 e2 de = (e1 de).andThen e2 := Eq.trans rfl rfl
@[simp] theorem ps17 : vSet k ev de = (ev de).out fun d de1 => .nx (de1.set k (.va d)) := Eq.trans rfl rfl
@[simp] theorem ps18 : vSetF k ev de = (ev de).out fun d de1 => .nx (de1.set k (.ow d)) := Eq.trans rfl rfl
@[simp] theorem ps19 : vExpr ev de = (ev de).out fun _ de1 => .nx de1 := Eq.trans rfl rfl
@[simp] theorem ps20 : vIf eb e1 e2 de = (eb de).out fun b de1 => if b = true then e1 de1 else e2 de1 := Eq.trans rfl rfl
@[simp] theorem ps21 : vRet ev de = (ev de).out fun d de1 => .ret d de1 := Eq.trans rfl rfl
@[simp] theorem ps22 : vRetF ev de = (ev de).out fun d de1 => .retF d de1 := Eq.trans rfl rfl
@[simp] theorem ps23 : vRetN de = .ret .non de := Eq.trans rfl rfl
@[simp] theorem ps24 : vSkip de = .nx de := Eq.trans rfl rfl
@[simp] theorem ps27 : vC d de = .ok d de := Eq.trans rfl rfl
@[simp] theorem ps28 : vVar k de = vVarA k de de[k]? := by unfold vVar; cases de[k]? with | none => rfl | some s => cases s <;> rfl
@[simp] theorem ps29 : vVarA k de (some (.va d)) = .ok d de := Eq.trans rfl rfl
@[simp] theorem ps30 : vVarA k de (some (.ow d)) = .ok d (de.set k (.va d)) := Eq.trans rfl rfl
@[simp] theorem ps31 : vMove k de = vMoveA k de de[k]? := by unfold vMove; cases de[k]? with | none => rfl | some s => cases s <;> rfl
@[simp] theorem ps32 : vMoveA k de (some (.ow d)) = .ok d (de.set k .no) := Eq.trans rfl rfl
@[simp] theorem ps33 : (Op.e ev).run de = (ev de).bind fun d de1 => .ok (fun _ => some d) de1 := Eq.trans rfl rfl
@[simp] theorem ps34 : (Op.s k).run de = slotRunA k de (slotAt k de) := by show slotRun k de = _; unfold slotRun; cases slotAt k de <;> rfl
@[simp] theorem ps35 : slotRunA k de (some d) = .ok (slotAt k) de := Eq.trans rfl rfl
@[simp] theorem ps36 : slotAt k de = (de[k]?).bind Sl.dat := Eq.trans rfl rfl
@[simp] theorem ps37 : (Sl.va d).dat = some d := Eq.trans rfl rfl
@[simp] theorem ps38 : (Sl.ow d).dat = some d := Eq.trans rfl rfl
@[simp] theorem ps39 : (Sl.pn d).dat = some d := Eq.trans rfl rfl
@[simp] theorem ps40 : vO2 f oa ob de = (oa.run de).bind fun fa de1 => (ob.run de1).bind fun fb de2 => ofO ((fa de2).bind fun x => (fb de2).bind fun y => f x y) de2 := Eq.trans rfl rfl
@[simp] theorem ps41 : vO1 f1 oa de = (oa.run de).bind fun fa de1 => ofO ((fa de1).bind f1) de1 := Eq.trans rfl rfl
@[simp] theorem ps42 : vON fN os de = (runs os de).bind fun fs de1 => ofO ((reads fs de1).bind fN) de1 := Eq.trans rfl rfl
@[simp] theorem ps43 : runs [] de = .ok [] de := Eq.trans rfl rfl
@[simp] theorem ps44 : runs (o :: os) de = (o.run de).bind fun f de1 => (runs os de1).bind fun fs de2 => .ok (f :: fs) de2 := Eq.trans rfl rfl
@[simp] theorem ps45 : reads [] de = some [] := Eq.trans rfl rfl
@[simp] theorem ps46 {f : DEnv → Option D} {fs : List (DEnv → Option D)} : reads (f :: fs) de = (f de).bind fun d => (reads fs de).map fun ds => d :: ds := Eq.trans rfl rfl
@[simp] theorem ps47 : vB ev de = (ev de).bind fun d de1 => ofO (asB d) de1 := Eq.trans rfl rfl
@[simp] theorem ps48 : asB (.bl b) = some b := Eq.trans rfl rfl
@[simp] theorem ps49 : vNot eb de = (eb de).bind fun b de1 => .ok (!b) de1 := Eq.trans rfl rfl
@[simp] theorem ps50 : vAnd eb1 eb2 de = (eb1 de).bind fun b de1 => if b = true then eb2 de1 else .ok false de1 := Eq.trans rfl rfl
@[simp] theorem ps51 : vOr eb1 eb2 de = (eb1 de).bind fun b de1 => if b = true then .ok true de1 else eb2 de1 := Eq.trans rfl rfl
@[simp] theorem ps52 : vTru oa de = (oa.run de).bind fun fa de1 => ofO ((fa de1).bind truD) de1 := Eq.trans rfl rfl
@[simp] theorem ps53 : truD (.bl b) = some b := Eq.trans rfl rfl
@[simp] theorem ps54 : vAndV ev1 ev2 de = (ev1 de).bind (andA ev2) := Eq.trans rfl rfl
@[simp] theorem ps55 : andA ev2 (.bl true) de = ev2 de := Eq.trans rfl rfl
@[simp] theorem ps56 : andA ev2 (.bl false) de = .ok (.bl false) de := Eq.trans rfl rfl
@[simp] theorem ps57 : vOrV ev1 ev2 de = (ev1 de).bind (orA ev2) := Eq.trans rfl rfl
@[simp] theorem ps58 : orA ev2 (.bl true) de = .ok (.bl true) de := Eq.trans rfl rfl
@[simp] theorem ps59 : orA ev2 (.bl false) de = ev2 de := Eq.trans rfl rfl
@[simp] theorem ps60 : vNotV ev1 de = (ev1 de).bind fun d de1 => ofO (fNotV d) de1 := Eq.trans rfl rfl
@[simp] theorem ps61 : fNotV (.bl b) = some (.bl (!b)) := Eq.trans rfl rfl
@[simp] theorem ps62 : vIfE eb ev1 ev2 de = (eb de).bind fun b de1 => if b = true then ev1 de1 else ev2 de1 := Eq.trans rfl rfl
@[simp] theorem ps63 : vCh f g oa ob oc de = (oa.run de).bind fun fa de1 => (ob.run de1).bind fun fb de2 => (ofO ((fa de2).bind fun x => (fb de2).bind fun y => (f x y).bind asB) de2).bind fun k de2 => if k = true then (oc.run de2).bind fun fc de3 => ofO ((fb de3).bind fun y => (fc de3).bind fun z => g y z) de3 else .ok (.bl false) de2 := Eq.trans rfl rfl
@[simp] theorem ps64 : vNil de = .ok [] de := Eq.trans rfl rfl
@[simp] theorem ps65 : vCons ev ea de = (ev de).bind fun d de1 => (ea de1).bind fun ds de2 => .ok (d :: ds) de2 := Eq.trans rfl rfl
@[simp] theorem ps66 : vTup ea de = (ea de).bind fun ds de1 => if ds.length ≤ 16777216 then .ok (.tup ds) de1 else .bad := Eq.trans rfl rfl
@[simp] theorem ps67 : vLst ea de = (ea de).bind fun ds de1 => if ds.length ≤ 16777216 then .ok (.lst ds) de1 else .bad := Eq.trans rfl rfl
@[simp] theorem ps68 : fSub (.int i) (.int j) = some (.int (i - j)) := Eq.trans rfl rfl
@[simp] theorem ps69 (h : cMul i j = true) : fMul (.int i) (.int j) = some (.int (i * j)) := by show (if cMul i j = true then _ else _) = _; rw [if_pos h]
@[simp] theorem ps70 (h : cDiv i j = true) : fFdiv (.int i) (.int j) = some (.int (i / j)) := by show (if cDiv i j = true then _ else _) = _; rw [if_pos h]
@[simp] theorem ps71 (h : cMod i j = true) : fMod (.int i) (.int j) = some (.int (i % j)) := by show (if cMod i j = true then _ else _) = _; rw [if_pos h]
@[simp] theorem ps72 (h : cPow i j = true) : fPow (.int i) (.int j) = some (.int (i ^ j.toNat)) := by show (if cPow i j = true then _ else _) = _; rw [if_pos h]
@[simp] theorem ps73 : fLt (.int i) (.int j) = some (.bl (decide (i < j))) := Eq.trans rfl rfl
@[simp] theorem ps74 : fLe (.int i) (.int j) = some (.bl (decide (i ≤ j))) := Eq.trans rfl rfl
@[simp] theorem ps75 : fGt (.int i) (.int j) = some (.bl (decide (j < i))) := Eq.trans rfl rfl
@[simp] theorem ps76 : fGe (.int i) (.int j) = some (.bl (decide (j ≤ i))) := Eq.trans rfl rfl
@[simp] theorem ps77 : fNeg (.int i) = some (.int (-i)) := Eq.trans rfl rfl
@[simp] theorem ps78 : fAdd (.int i) (.int j) = some (.int (i + j)) := Eq.trans rfl rfl
@[simp] theorem ps79 : fAdd (.lst xs) (.lst ys) = if xs.length + ys.length ≤ 16777216 then some (.lst (xs ++ ys)) else none := Eq.trans rfl rfl
@[simp] theorem ps80 : fAdd (.tup xs) (.tup ys) = if xs.length + ys.length ≤ 16777216 then some (.tup (xs ++ ys)) else none := Eq.trans rfl rfl
@[simp] theorem ps81 : fCat (.lst xs) (.lst ys) = if xs.length + ys.length ≤ 16777216 then some (.lst (xs ++ ys)) else none := Eq.trans rfl rfl
@[simp] theorem ps82 : fIx (.lst xs) (.int i) = atI xs i := Eq.trans rfl rfl
@[simp] theorem ps83 : fIx (.tup xs) (.int i) = atI xs i := Eq.trans rfl rfl
@[simp] theorem ps84 : fIx (.scr xs) (.int i) = atI xs i := Eq.trans rfl rfl
@[simp] theorem ps85 : fLen [.lst xs] = some (.int xs.length) := Eq.trans rfl rfl
@[simp] theorem ps86 : fLen [.tup xs] = some (.int xs.length) := Eq.trans rfl rfl
@[simp] theorem ps87 : fLen [.scr xs] = some (.int xs.length) := Eq.trans rfl rfl
@[simp] theorem ps88 : fAbs [.int i] = some (.int (if i < 0 then -i else i)) := Eq.trans rfl rfl
@[simp] theorem ps89 : fInt [.int i] = some (.int i) := Eq.trans rfl rfl
@[simp] theorem ps90 : fTuple [.lst xs] = some (.tup xs) := Eq.trans rfl rfl
@[simp] theorem ps91 : fTuple [.tup xs] = some (.tup xs) := Eq.trans rfl rfl
@[simp] theorem ps92 : fList [.lst xs] = some (.lst xs) := Eq.trans rfl rfl
@[simp] theorem ps93 : fList [.tup xs] = some (.lst xs) := Eq.trans rfl rfl
@[simp] theorem ps94 : fFld cl nm (.obj c fs) = if cl.contains c then fs.lookup nm else none := Eq.trans rfl rfl
@[simp] theorem ps95 : vFld cl nm oa de = vO1 (fFld cl nm) oa de := Eq.trans rfl rfl
@[simp] theorem ps96 {t : Ty} : fIsi cl [d, .cls t] = (tyOf d).bind fun s => if (tyIn cl s || tyN s) && tyIn cl t then some (.bl (isi s t)) else none := Eq.trans rfl rfl
@[simp] theorem ps97 : tyOf .non = some (.b "NoneType") := Eq.trans rfl rfl
@[simp] theorem ps98 : tyOf (.bl b) = some (.b "bool") := Eq.trans rfl rfl
@[simp] theorem ps99 : tyOf (.int i) = some (.b "int") := Eq.trans rfl rfl
@[simp] theorem ps100 : tyOf (.str x) = some (.b "str") := Eq.trans rfl rfl
@[simp] theorem ps101 : tyOf (.tup xs) = some (.b "tuple") := Eq.trans rfl rfl
@[simp] theorem ps102 : tyOf (.lst xs) = some (.b "list") := Eq.trans rfl rfl
@[simp] theorem ps103 {kvs : List (Key × D)} : tyOf (.dk kvs) = some (.b "dict") := Eq.trans rfl rfl
@[simp] theorem ps104 : tyOf (.obj c fs) = some (.o c) := Eq.trans rfl rfl
@[simp] theorem ps105 {S U : String} : isi (.b S) (.b U) = (S == U || (S == "bool" && U == "int")) := Eq.trans rfl rfl
@[simp] theorem ps106 {S : String} : isi (.b S) (.o c) = false := Eq.trans rfl rfl
@[simp] theorem ps107 {S : String} : isi (.o c) (.b S) = false := Eq.trans rfl rfl
@[simp] theorem ps108 {c2 : Nat} : isi (.o c) (.o c2) = (c == c2) := Eq.trans rfl rfl
@[simp] theorem ps109 {S : String} : tyIn cl (.b S) = bCls.contains S := Eq.trans rfl rfl
@[simp] theorem ps110 : tyIn cl (.o c) = cl.contains c := Eq.trans rfl rfl
@[simp] theorem ps111 {S : String} : tyN (.b S) = (S == "NoneType") := Eq.trans rfl rfl
@[simp] theorem ps112 : tyN (.o c) = false := Eq.trans rfl rfl
@[simp] theorem ps113 : bCls = ["bool", "int", "str", "tuple", "list", "dict"] := Eq.trans rfl rfl
@[simp] theorem ps114 : asI (.int i) = some i := Eq.trans rfl rfl
@[simp] theorem ps115 : (Sl.pn d).same d1 = .pn d1 := Eq.trans rfl rfl
@[simp] theorem ps116 : (Sl.ow d).same d1 = .ow d1 := Eq.trans rfl rfl
@[simp] theorem ps117 : (Sl.pn d).owd = some d := Eq.trans rfl rfl
@[simp] theorem ps118 : (Sl.ow d).owd = some d := Eq.trans rfl rfl
@[simp] theorem ps119 : (Sl.va d).owd = none := Eq.trans rfl rfl
@[simp] theorem ps120 : Sl.no.owd = none := Eq.trans rfl rfl
@[simp] theorem ps121 : slotOw k de = (de[k]?).bind fun s => s.owd.map fun d => (s, d) := Eq.trans rfl rfl
@[simp] theorem ps122 : isLst (.lst xs) = true := Eq.trans rfl rfl
@[simp] theorem ps123 : vSetIx k ev1 ev2 de = (ev1 de).out fun v de1 => if ((slotAt k de1).map isLst).getD false = true then (ev2 de1).out fun x de2 => putL k v x de2 else .bad := Eq.trans rfl rfl
@[simp] theorem ps124 {v : D} : putL k v d de = putLA k v d de (slotOw k de) := by unfold putL; cases slotOw k de with | none => rfl | some p => obtain ⟨s, x⟩ := p; cases x <;> rfl
@[simp] theorem ps125 {v : D} : putLA k v d de (some (s, .lst xs)) = putLB k v s xs de ((asI d).bind fun k => ixN xs.length k) := Eq.trans rfl rfl
@[simp] theorem ps126 {v : D} : putLB k v s xs de (some m) = .nx (de.set k (s.same (.lst (xs.set m v)))) := Eq.trans rfl rfl
@[simp] theorem ps127 : vSetFld k cl nm ev de = (ev de).out fun d de1 => fldA k cl nm d de1 (slotOw k de1) := by unfold vSetFld; congr 1 <;> (funext d de1; cases slotOw k de1 with | none => rfl | some p => obtain ⟨s, x⟩ := p; cases x <;> rfl)
@[simp] theorem ps128 : fldA k cl nm d de (some (s, .obj c fs)) = if cl.contains c = true ∧ fs.length < 1000 then .nx (de.set k (s.same (.obj c (putD nm d fs)))) else .bad := Eq.trans rfl rfl
@[simp] theorem ps129 {v : D} : putD nm v [] = [(nm, v)] := Eq.trans rfl rfl
@[simp] theorem ps130 {v w : D} {n2 : PySem.Str} : putD nm v ((n2, w) :: fs) = if n2 = nm then (n2, v) :: fs else (n2, w) :: putD nm v fs := Eq.trans rfl rfl
@[simp] theorem psFor {ei : DEnv → Rs (List D)} {gg : D → DEnv → Option DEnv} : vFor ei gg e1 de = (ei de).out fun ds de1 => vLoop gg e1 ds de1 := Eq.trans rfl rfl
@[simp] theorem ps131 {gg : D → DEnv → Option DEnv} : vLoop gg e1 [] de = .nx de := Eq.trans rfl rfl
@[simp] theorem ps132 : vSeqI ev de = (ev de).bind fun d de1 => ofO (itemsOf d) de1 := Eq.trans rfl rfl
@[simp] theorem ps133 : itemsOf (.lst xs) = some xs := Eq.trans rfl rfl
@[simp] theorem ps134 : itemsOf (.tup xs) = some xs := Eq.trans rfl rfl
@[simp] theorem ps135 : itemsOf (.scr xs) = some xs := Eq.trans rfl rfl
@[simp] theorem ps136 : tName k d de = some (de.set k (.va d)) := Eq.trans rfl rfl
@[simp] theorem ps137 : vRng1 ev de = (ev de).bind rngA := Eq.trans rfl rfl
@[simp] theorem ps138 : cNil de = .ok [] de := Eq.trans rfl rfl
@[simp] theorem ps139 : cVal ev ec de = (ev de).bind fun d de1 => (ec de1).bind fun cs de2 => .ok (.v d :: cs) de2 := Eq.trans rfl rfl
@[simp] theorem ps140 : cSlot k ec de = cSlotA k ec de (slotAt k de) := by unfold cSlot; cases slotAt k de <;> rfl
@[simp] theorem ps141 : cSlotA k ec de (some d) = (ec de).bind fun cs de2 => .ok (.s k :: cs) de2 := Eq.trans rfl rfl
@[simp] theorem ps142 : wCall n mu md dcs ec de = (ec de).bind fun cs de1 => callC n mu md dcs cs de1 := Eq.trans rfl rfl
@[simp] theorem ps143 : wCallF n mu md dcs ec de = (ec de).bind fun cs de1 => callCF n mu md dcs cs de1 := Eq.trans rfl rfl
@[simp] theorem ps144 : argD mu [] de = some [] := by cases mu <;> rfl
@[simp] theorem ps145 {cc : CA} : argD none (cc :: cs) de = (caD cc de).bind fun d => (argD none cs de).map (d :: ·) := Eq.trans rfl rfl
@[simp] theorem ps146 : argD (some 0) (.s k :: cs) de = (slotOw k de).bind fun q => (argD none cs de).map (q.2 :: ·) := Eq.trans rfl rfl
@[simp] theorem ps147 {cc : CA} : argD (some (k + 1)) (cc :: cs) de = (caD cc de).bind fun d => (argD (some k) cs de).map (d :: ·) := Eq.trans rfl rfl
@[simp] theorem ps148 : caD (.v d) de = some d := Eq.trans rfl rfl
@[simp] theorem ps149 : argS none cs = none := by cases cs <;> rfl
@[simp] theorem ps150 : argS (some 0) (.s k :: cs) = some k := Eq.trans rfl rfl
@[simp] theorem ps151 {cc : CA} : argS (some (k + 1)) (cc :: cs) = argS (some k) cs := Eq.trans rfl rfl
@[simp] theorem ps152 : okS mu (none : Option Nat) = ((none : Option Nat).isSome == mu.isSome) := Eq.trans rfl rfl
@[simp] theorem ps153 : okS mu (some k) = ((some k).isSome == mu.isSome) := Eq.trans rfl rfl
@[simp] theorem ps154 : callC n mu md dcs cs de = callA n mu md dcs cs de (argD mu cs de) := by unfold callC; cases argD mu cs de <;> rfl
@[simp] theorem ps155 {ds : List D} : callA n mu md dcs cs de (some ds) = if ds.length + dcs.length = n ∧ okS mu (argS mu cs) = true then callE (argS mu cs) de (md (ds ++ dcs)) else .bad := Eq.trans rfl rfl
@[simp] theorem ps156 : callCF n mu md dcs cs de = callFA n mu md dcs cs de (argD mu cs de) := by unfold callCF; cases argD mu cs de <;> rfl
@[simp] theorem ps157 {ds : List D} : callFA n mu md dcs cs de (some ds) = if ds.length + dcs.length = n ∧ okS mu (argS mu cs) = true then callF (argS mu cs) de (md (ds ++ dcs)) else .bad := Eq.trans rfl rfl
@[simp] theorem ps158 {w : Option Nat} : callE w de (.ret d q) = .ok d (putBack w q de) := Eq.trans rfl rfl
@[simp] theorem ps159 {w : Option Nat} : callE w de (.retF d q) = .ok d (putBack w q de) := Eq.trans rfl rfl
@[simp] theorem ps160 {w : Option Nat} : callE w de (.ex c fs q) = .ex c fs (putBack w q de) := Eq.trans rfl rfl
@[simp] theorem ps161 {w : Option Nat} : callF w de (.retF d q) = .ok d (putBack w q de) := Eq.trans rfl rfl
@[simp] theorem ps162 {w : Option Nat} : callF w de (.ex c fs q) = .ex c fs (putBack w q de) := Eq.trans rfl rfl
@[simp] theorem ps163 : putBack none q de = de := by cases q <;> rfl
@[simp] theorem ps164 : putBack (some k) (some d) de = putA k d de de[k]? := by unfold putBack; dsimp only; cases de[k]? <;> rfl
@[simp] theorem ps165 : putA k d de (some s) = de.set k (s.same d) := Eq.trans rfl rfl
@[simp] theorem ps166 : finish none (.ret d de) = .ret d none := Eq.trans rfl rfl
@[simp] theorem ps167 : finish none (.retF d de) = .retF d none := Eq.trans rfl rfl
@[simp] theorem ps168 : finish none (.nx de) = .ret .non none := Eq.trans rfl rfl
@[simp] theorem ps169 : finish none (.ex c fs de) = .ex c fs none := Eq.trans rfl rfl
@[simp] theorem ps170 : lastOf (some k) de = lastA de[k]? := by unfold lastOf; dsimp only; cases de[k]? with | none => rfl | some s => cases s <;> rfl
@[simp] theorem ps171 : lastA (some (.pn d)) = some (some d) := Eq.trans rfl rfl
@[simp] theorem ps172 : finish (some k) (.ret d de) = finA (.ret d) (lastOf (some k) de) := by unfold finish; dsimp only; cases lastOf (some k) de <;> rfl
@[simp] theorem ps173 : finish (some k) (.retF d de) = finA (.retF d) (lastOf (some k) de) := by unfold finish; dsimp only; cases lastOf (some k) de <;> rfl
@[simp] theorem ps174 : finish (some k) (.nx de) = finA (.ret .non) (lastOf (some k) de) := by unfold finish; dsimp only; cases lastOf (some k) de <;> rfl
@[simp] theorem ps175 : finish (some k) (.ex c fs de) = finA (.ex c fs) (lastOf (some k) de) := by unfold finish; dsimp only; cases lastOf (some k) de <;> rfl
@[simp] theorem ps176 {f : Option D → Fo} : finA f (some q) = f q := Eq.trans rfl rfl
@[simp] theorem ps177 : env0 none xs = xs.map .va := by cases xs <;> rfl
@[simp] theorem ps178 : env0 (some 0) (d :: xs) = .pn d :: xs.map .va := Eq.trans rfl rfl
@[simp] theorem ps179 : env0 (some (k + 1)) (d :: xs) = .va d :: env0 (some k) xs := Eq.trans rfl rfl
@[simp] theorem ps180 {gg : D → DEnv → Option DEnv} : vLoop gg e1 (d :: xs) de = loopA gg e1 xs (gg d de) := by rw [vLoop]; cases gg d de with | none => rfl | some de1 => (show (match e1 de1 with | .nx de2 => vLoop gg e1 xs de2 | .ct de2 => vLoop gg e1 xs de2 | .brk de2 => .nx de2 | .ret d de2 => .ret d de2 | .retF d de2 => .retF d de2 | .ex c fs de2 => .ex c fs de2 | .bad => .bad) = loopB gg e1 xs (e1 de1); cases e1 de1 <;> rfl)
@[simp] theorem ps181 {gg : D → DEnv → Option DEnv} : loopA gg e1 xs (some de) = loopB gg e1 xs (e1 de) := Eq.trans rfl rfl
@[simp] theorem ps182 {gg : D → DEnv → Option DEnv} : loopB gg e1 xs (.nx de) = vLoop gg e1 xs de := Eq.trans rfl rfl
@[simp] theorem ps183 {gg : D → DEnv → Option DEnv} : loopB gg e1 xs (.ct de) = vLoop gg e1 xs de := Eq.trans rfl rfl
@[simp] theorem ps184 {gg : D → DEnv → Option DEnv} : loopB gg e1 xs (.brk de) = .nx de := Eq.trans rfl rfl
@[simp] theorem ps185 {gg : D → DEnv → Option DEnv} : loopB gg e1 xs (.ret d de) = .ret d de := Eq.trans rfl rfl
@[simp] theorem ps186 {gg : D → DEnv → Option DEnv} : loopB gg e1 xs (.retF d de) = .retF d de := Eq.trans rfl rfl
@[simp] theorem ps187 {gg : D → DEnv → Option DEnv} : loopB gg e1 xs (.ex c fs de) = .ex c fs de := Eq.trans rfl rfl
@[simp] theorem ps188 {mt : Nat → Option Bool} : vTryAs k mt e1 e2 de = tryA k mt e2 (e1 de) := by unfold vTryAs tryA; cases e1 de with | ex c fs de1 => (dsimp only; cases mt c with | none => rfl | some b => (cases b <;> rfl)) | _ => rfl
@[simp] theorem ps189 {mt : Nat → Option Bool} : vTryOnly mt e1 e2 de = tryC mt e2 (e1 de) := by unfold vTryOnly tryC; cases e1 de with | ex c fs de1 => (dsimp only; cases mt c with | none => rfl | some b => (cases b <;> rfl)) | _ => rfl
@[simp] theorem ps190 {mt : Nat → Option Bool} : tryA k mt e2 (.nx de) = .nx de := Eq.trans rfl rfl
@[simp] theorem ps191 {mt : Nat → Option Bool} : tryA k mt e2 (.ret d de) = .ret d de := Eq.trans rfl rfl
@[simp] theorem ps192 {mt : Nat → Option Bool} : tryA k mt e2 (.retF d de) = .retF d de := Eq.trans rfl rfl
@[simp] theorem ps193 {mt : Nat → Option Bool} : tryA k mt e2 (.brk de) = .brk de := Eq.trans rfl rfl
@[simp] theorem ps194 {mt : Nat → Option Bool} : tryA k mt e2 (.ct de) = .ct de := Eq.trans rfl rfl
@[simp] theorem ps195 {mt : Nat → Option Bool} : tryC mt e2 (.nx de) = .nx de := Eq.trans rfl rfl
@[simp] theorem ps196 {mt : Nat → Option Bool} : tryC mt e2 (.ret d de) = .ret d de := Eq.trans rfl rfl
@[simp] theorem ps197 {mt : Nat → Option Bool} : tryC mt e2 (.retF d de) = .retF d de := Eq.trans rfl rfl
@[simp] theorem ps198 {mt : Nat → Option Bool} : tryC mt e2 (.brk de) = .brk de := Eq.trans rfl rfl
@[simp] theorem ps199 {mt : Nat → Option Bool} : tryC mt e2 (.ct de) = .ct de := Eq.trans rfl rfl
@[simp] theorem ps200 {mt : Nat → Option Bool} : tryA k mt e2 (.ex c fs de) = tryB k e2 c fs de (mt c) := Eq.trans rfl rfl
@[simp] theorem ps201 {mt : Nat → Option Bool} : tryC mt e2 (.ex c fs de) = tryD e2 c fs de (mt c) := Eq.trans rfl rfl
@[simp] theorem ps202 : tryB k e2 c fs de (some true) = if calmD (de.set k .no) = true then offEx k (e2 (de.set k (.ex c fs))) else .bad := Eq.trans rfl rfl
@[simp] theorem ps203 : tryB k e2 c fs de (some false) = .ex c fs de := Eq.trans rfl rfl
@[simp] theorem ps204 : tryD e2 c fs de (some true) = noOut (e2 de) := Eq.trans rfl rfl
@[simp] theorem ps205 : tryD e2 c fs de (some false) = .ex c fs de := Eq.trans rfl rfl
@[simp] theorem ps206 : noOut (.nx de) = .nx de := Eq.trans rfl rfl
@[simp] theorem ps207 : noOut (.ret d de) = .ret d de := Eq.trans rfl rfl
@[simp] theorem ps208 : noOut (.retF d de) = .retF d de := Eq.trans rfl rfl
@[simp] theorem ps209 : noOut (.brk de) = .brk de := Eq.trans rfl rfl
@[simp] theorem ps210 : noOut (.ct de) = .ct de := Eq.trans rfl rfl
@[simp] theorem ps211 : offEx k (.nx de) = if calmD (de.set k .no) = true then .nx (de.set k .no) else .bad := Eq.trans rfl rfl
@[simp] theorem ps212 : offEx k (.brk de) = if calmD (de.set k .no) = true then .brk (de.set k .no) else .bad := Eq.trans rfl rfl
@[simp] theorem ps213 : offEx k (.ct de) = if calmD (de.set k .no) = true then .ct (de.set k .no) else .bad := Eq.trans rfl rfl
@[simp] theorem ps214 : offEx k (.ret d de) = if calmD (de.set k .no) = true then .ret d (de.set k .no) else .bad := Eq.trans rfl rfl
@[simp] theorem ps215 : offEx k (.retF d de) = if calmD (de.set k .no) = true then .retF d (de.set k .no) else .bad := Eq.trans rfl rfl
@[simp] theorem ps216 : calmD de = de.all noEx := Eq.trans rfl rfl
@[simp] theorem ps217 : noEx .no = true := Eq.trans rfl rfl
@[simp] theorem ps218 : noEx (.va d) = true := Eq.trans rfl rfl
@[simp] theorem ps219 : noEx (.ow d) = true := Eq.trans rfl rfl
@[simp] theorem ps220 : noEx (.pn d) = true := Eq.trans rfl rfl
@[simp] theorem ps221 : noEx (.ex c fs) = false := Eq.trans rfl rfl
@[simp] theorem ps222 : vXf k c nm de = xfA c nm de de[k]? := by unfold vXf; cases de[k]? with | none => rfl | some s => cases s <;> rfl
@[simp] theorem ps223 {c2 : Nat} : xfA c nm de (some (.ex c2 fs)) = if c2 = c then ofO (fs.lookup nm) de else .bad := Eq.trans rfl rfl
@[simp] theorem ps224 {ar : List D → List D → List D} {ek : DEnv → Rs (List D)} : wMakeK c n md ar ea ek de = (ea de).bind fun ds de1 => (ek de1).bind fun zs de2 => makeC c n md (ar ds zs) de2 := Eq.trans rfl rfl
@[simp] theorem ps225 : wMake c n md dcs ea de = (ea de).bind fun ds de1 => makeC c n md (ds ++ dcs) de1 := Eq.trans rfl rfl
@[simp] theorem ps226 : makeC c n md xs de = if xs.length + 1 = n then mkA de (md (.obj c [] :: xs)) else .bad := by unfold makeC; split <;> first | rfl | (cases md (.obj c [] :: xs) with | ret d q => cases d <;> cases q <;> rfl | ex c f q => cases q <;> rfl | _ => rfl)
@[simp] theorem ps227 : mkA de (.ret .non (some d)) = .ok d de := Eq.trans rfl rfl
@[simp] theorem ps228 : mkA de (.ex c fs (some d)) = .ex c fs de := Eq.trans rfl rfl
@[simp] theorem ps229 {par : PySem.Str} {okd : D → Bool} : vRaise2 c par okd ev de = (ev de).out fun d de1 => if okd d = true then .ex c [(par, d)] de1 else .bad := Eq.trans rfl rfl
@[simp] theorem ps231 : anyD d = true := Eq.trans rfl rfl
@[simp] theorem ps233 {β : Type} {l : List (Nat × β)} {v : β} {a : Nat} : ((a, v) :: l).lookup c = if c = a then some v else l.lookup c := if h : c = a then by simp [List.lookup, h] else by have h2 : (c == a) = false := (by simpa using h); simp [List.lookup, h, h2]
@[simp] theorem ps234 {β : Type} {l : List (PySem.Str × β)} {v : β} {a : PySem.Str} : ((a, v) :: l).lookup nm = if nm = a then some v else l.lookup nm := if h : nm = a then by simp [List.lookup, h] else by have h2 : (nm == a) = false := (by simpa using h); simp [List.lookup, h, h2]
@[simp] theorem ps235 {f3 : D → Option Int → Option Int → Option D} {p1 p2 : DEnv → Rs (Option Int)} : vSl f3 o p1 p2 de = (o.run de).bind fun fa de1 => (p1 de1).bind fun l de2 => (p2 de2).bind fun u de3 => ofO ((fa de3).bind fun d => f3 d l u) de3 := Eq.trans rfl rfl
@[simp] theorem ps236 : vNoP de = .ok none de := Eq.trans rfl rfl
@[simp] theorem ps237 : vPart ev de = (ev de).bind fun d de1 => ofO ((asI d).map some) de1 := Eq.trans rfl rfl
@[simp] theorem ps238 {l u : Option Int} : fSlA (.scr xs) l u = some (.lst (cutD xs l u)) := Eq.trans rfl rfl
@[simp] theorem ps239 {l u : Option Int} : fSlA (.lst xs) l u = some (.lst (cutD xs l u)) := Eq.trans rfl rfl
@[simp] theorem ps240 {l u : Option Int} : fSlA (.tup xs) l u = some (.tup (cutD xs l u)) := Eq.trans rfl rfl
@[simp] theorem ps241 {l u : Option Int} : fSlL (.scr xs) l u = some (.lst (cutD xs l u)) := Eq.trans rfl rfl
@[simp] theorem ps242 {l u : Option Int} : fSlL (.lst xs) l u = some (.lst (cutD xs l u)) := Eq.trans rfl rfl
end
theorem ofString_inj (a b : String) : (PySem.Str.ofString a = PySem.Str.ofString b) = (a = b) := by
  refine propext ⟨fun h => ?_, fun h => by rw [h]⟩
  rw [PySem.Str.ofString_eq_toList, PySem.Str.ofString_eq_toList] at h
  have h1 : a.toList.map Char.toNat = b.toList.map Char.toNat := by
    have := congrArg (fun s => s.cps.toList) h
    simpa using this
  have h2 : ∀ l m : List Char, l.map Char.toNat = m.map Char.toNat → l = m := fun l => by
    induction l with
    | nil => intro m e; cases m with | nil => rfl | cons _ _ => cases e
    | cons x l ih =>
      intro m e
      cases m with
      | nil => cases e
      | cons y m =>
        simp only [List.map_cons, List.cons.injEq] at e
        rw [ih m e.2, Char.ext (UInt32.toNat_inj.mp e.1)]
  exact String.ext (h2 _ _ h1)
@[simp] theorem ofString_eq (a b : String) : (PySem.Str.ofString a = PySem.Str.ofString b) = (a = b) := ofString_inj a b
theorem cutD_len (xs : List D) (l u : Option Int) : (cutD xs l u).length ≤ xs.length := by
  unfold cutD
  rw [List.length_take, List.length_drop]
  omega
theorem fEq_self (d : D) (h : PySem.SeqAt.shaped (toPy d) = true) : fEq d d = some (.bl true) := by
  unfold fEq
  rw [h, PySem.SeqAt.eqv_refl _ (PySem.SeqAt.canLay_of_shaped h)]
  rfl
@[simp] theorem fEq_int (i j : Int) : fEq (.int i) (.int j) = some (.bl (decide (i = j))) := by
  have h : ∀ k : Int, PySem.SeqAt.shaped (toPy (.int k)) = true := fun k => rfl
  unfold fEq
  rw [h, h]
  show some (D.bl (i == j)) = _
  rw [show (i == j) = decide (i = j) from rfl]
@[simp] theorem fNe_int (i j : Int) : fNe (.int i) (.int j) = some (.bl (!decide (i = j))) := by
  have h : ∀ k : Int, PySem.SeqAt.shaped (toPy (.int k)) = true := fun k => rfl
  unfold fNe
  rw [h, h]
  show some (D.bl (!(i == j))) = _
  rw [show (i == j) = decide (i = j) from rfl]
theorem rngA_n (n : Nat) (h : n ≤ 100000000) (de : DEnv) : rngA (.int (n : Int)) de = .ok (rangeD 0 n) de := by
  have h0 : (n : Int) ≤ 100000000 := Int.ofNat_le.mpr h
  have h1 : -(2 ^ 62 : Int) ≤ (n : Int) := Int.le_trans (by decide : -(2 ^ 62 : Int) ≤ 0) (Int.natCast_nonneg n)
  have h2 : (n : Int) < 2 ^ 62 := Int.lt_of_le_of_lt h0 (by decide : (100000000 : Int) < 2 ^ 62)
  unfold rngA
  dsimp only
  rw [if_pos ⟨h1, h2⟩, Int.toNat_natCast]
theorem atI_n {α : Type} (l : List α) (n : Nat) : atI l (n : Int) = l[n]? := by
  unfold atI ixN
  by_cases h : n < l.length
  · simp [h]
  · simp [h]
theorem ixN_nat (m n : Nat) (h : n < m) : ixN m (n : Int) = some n := by
  unfold ixN
  simp [h]
@[simp] theorem rngL0 (de : DEnv) : rngA (.int 0) de = .ok (rangeD 0 0) de := rngA_n 0 (by decide) de
@[simp] theorem rngL1 (de : DEnv) : rngA (.int 1) de = .ok (rangeD 0 1) de := rngA_n 1 (by decide) de
@[simp] theorem rngL2 (de : DEnv) : rngA (.int 2) de = .ok (rangeD 0 2) de := rngA_n 2 (by decide) de
@[simp] theorem rngL3 (de : DEnv) : rngA (.int 3) de = .ok (rangeD 0 3) de := rngA_n 3 (by decide) de
@[simp] theorem rngL4 (de : DEnv) : rngA (.int 4) de = .ok (rangeD 0 4) de := rngA_n 4 (by decide) de
@[simp] theorem rngL5 (de : DEnv) : rngA (.int 5) de = .ok (rangeD 0 5) de := rngA_n 5 (by decide) de
@[simp] theorem rngL6 (de : DEnv) : rngA (.int 6) de = .ok (rangeD 0 6) de := rngA_n 6 (by decide) de
@[simp] theorem rngL7 (de : DEnv) : rngA (.int 7) de = .ok (rangeD 0 7) de := rngA_n 7 (by decide) de
@[simp] theorem rngL8 (de : DEnv) : rngA (.int 8) de = .ok (rangeD 0 8) de := rngA_n 8 (by decide) de
@[simp] theorem rngL9 (de : DEnv) : rngA (.int 9) de = .ok (rangeD 0 9) de := rngA_n 9 (by decide) de
@[simp] theorem rngL10 (de : DEnv) : rngA (.int 10) de = .ok (rangeD 0 10) de := rngA_n 10 (by decide) de
@[simp] theorem rngL11 (de : DEnv) : rngA (.int 11) de = .ok (rangeD 0 11) de := rngA_n 11 (by decide) de
@[simp] theorem rngL12 (de : DEnv) : rngA (.int 12) de = .ok (rangeD 0 12) de := rngA_n 12 (by decide) de
@[simp] theorem rngL13 (de : DEnv) : rngA (.int 13) de = .ok (rangeD 0 13) de := rngA_n 13 (by decide) de
@[simp] theorem rngL14 (de : DEnv) : rngA (.int 14) de = .ok (rangeD 0 14) de := rngA_n 14 (by decide) de
@[simp] theorem rngL15 (de : DEnv) : rngA (.int 15) de = .ok (rangeD 0 15) de := rngA_n 15 (by decide) de
@[simp] theorem rngL16 (de : DEnv) : rngA (.int 16) de = .ok (rangeD 0 16) de := rngA_n 16 (by decide) de
@[simp] theorem rngL17 (de : DEnv) : rngA (.int 17) de = .ok (rangeD 0 17) de := rngA_n 17 (by decide) de
@[simp] theorem rngL18 (de : DEnv) : rngA (.int 18) de = .ok (rangeD 0 18) de := rngA_n 18 (by decide) de
@[simp] theorem rngL19 (de : DEnv) : rngA (.int 19) de = .ok (rangeD 0 19) de := rngA_n 19 (by decide) de
@[simp] theorem rngL20 (de : DEnv) : rngA (.int 20) de = .ok (rangeD 0 20) de := rngA_n 20 (by decide) de
@[simp] theorem rngL21 (de : DEnv) : rngA (.int 21) de = .ok (rangeD 0 21) de := rngA_n 21 (by decide) de
@[simp] theorem rngL22 (de : DEnv) : rngA (.int 22) de = .ok (rangeD 0 22) de := rngA_n 22 (by decide) de
@[simp] theorem rngL23 (de : DEnv) : rngA (.int 23) de = .ok (rangeD 0 23) de := rngA_n 23 (by decide) de
@[simp] theorem rngL24 (de : DEnv) : rngA (.int 24) de = .ok (rangeD 0 24) de := rngA_n 24 (by decide) de
@[simp] theorem rngL25 (de : DEnv) : rngA (.int 25) de = .ok (rangeD 0 25) de := rngA_n 25 (by decide) de
@[simp] theorem rngL26 (de : DEnv) : rngA (.int 26) de = .ok (rangeD 0 26) de := rngA_n 26 (by decide) de
@[simp] theorem rngL27 (de : DEnv) : rngA (.int 27) de = .ok (rangeD 0 27) de := rngA_n 27 (by decide) de
@[simp] theorem rngL28 (de : DEnv) : rngA (.int 28) de = .ok (rangeD 0 28) de := rngA_n 28 (by decide) de
@[simp] theorem rngL29 (de : DEnv) : rngA (.int 29) de = .ok (rangeD 0 29) de := rngA_n 29 (by decide) de
@[simp] theorem rngL30 (de : DEnv) : rngA (.int 30) de = .ok (rangeD 0 30) de := rngA_n 30 (by decide) de
@[simp] theorem rngL31 (de : DEnv) : rngA (.int 31) de = .ok (rangeD 0 31) de := rngA_n 31 (by decide) de
@[simp] theorem rngL32 (de : DEnv) : rngA (.int 32) de = .ok (rangeD 0 32) de := rngA_n 32 (by decide) de
@[simp] theorem rngL33 (de : DEnv) : rngA (.int 33) de = .ok (rangeD 0 33) de := rngA_n 33 (by decide) de
@[simp] theorem rngL34 (de : DEnv) : rngA (.int 34) de = .ok (rangeD 0 34) de := rngA_n 34 (by decide) de
@[simp] theorem rngL35 (de : DEnv) : rngA (.int 35) de = .ok (rangeD 0 35) de := rngA_n 35 (by decide) de
@[simp] theorem rngL36 (de : DEnv) : rngA (.int 36) de = .ok (rangeD 0 36) de := rngA_n 36 (by decide) de
@[simp] theorem rngL37 (de : DEnv) : rngA (.int 37) de = .ok (rangeD 0 37) de := rngA_n 37 (by decide) de
@[simp] theorem rngL38 (de : DEnv) : rngA (.int 38) de = .ok (rangeD 0 38) de := rngA_n 38 (by decide) de
@[simp] theorem rngL39 (de : DEnv) : rngA (.int 39) de = .ok (rangeD 0 39) de := rngA_n 39 (by decide) de
@[simp] theorem rngL40 (de : DEnv) : rngA (.int 40) de = .ok (rangeD 0 40) de := rngA_n 40 (by decide) de
@[simp] theorem atI0 {α : Type} (l : List α) : atI l 0 = l[0]? := atI_n l 0
@[simp] theorem ixN0 (m : Nat) (h : 0 < m) : ixN m 0 = some 0 := ixN_nat m 0 h
@[simp] theorem atI1 {α : Type} (l : List α) : atI l 1 = l[1]? := atI_n l 1
@[simp] theorem ixN1 (m : Nat) (h : 1 < m) : ixN m 1 = some 1 := ixN_nat m 1 h
@[simp] theorem atI2 {α : Type} (l : List α) : atI l 2 = l[2]? := atI_n l 2
@[simp] theorem ixN2 (m : Nat) (h : 2 < m) : ixN m 2 = some 2 := ixN_nat m 2 h
@[simp] theorem atI3 {α : Type} (l : List α) : atI l 3 = l[3]? := atI_n l 3
@[simp] theorem ixN3 (m : Nat) (h : 3 < m) : ixN m 3 = some 3 := ixN_nat m 3 h
@[simp] theorem atI4 {α : Type} (l : List α) : atI l 4 = l[4]? := atI_n l 4
@[simp] theorem ixN4 (m : Nat) (h : 4 < m) : ixN m 4 = some 4 := ixN_nat m 4 h
@[simp] theorem atI5 {α : Type} (l : List α) : atI l 5 = l[5]? := atI_n l 5
@[simp] theorem ixN5 (m : Nat) (h : 5 < m) : ixN m 5 = some 5 := ixN_nat m 5 h
@[simp] theorem atI6 {α : Type} (l : List α) : atI l 6 = l[6]? := atI_n l 6
@[simp] theorem ixN6 (m : Nat) (h : 6 < m) : ixN m 6 = some 6 := ixN_nat m 6 h
@[simp] theorem atI7 {α : Type} (l : List α) : atI l 7 = l[7]? := atI_n l 7
@[simp] theorem ixN7 (m : Nat) (h : 7 < m) : ixN m 7 = some 7 := ixN_nat m 7 h
@[simp] theorem atI8 {α : Type} (l : List α) : atI l 8 = l[8]? := atI_n l 8
@[simp] theorem ixN8 (m : Nat) (h : 8 < m) : ixN m 8 = some 8 := ixN_nat m 8 h
@[simp] theorem atI9 {α : Type} (l : List α) : atI l 9 = l[9]? := atI_n l 9
@[simp] theorem ixN9 (m : Nat) (h : 9 < m) : ixN m 9 = some 9 := ixN_nat m 9 h
@[simp] theorem atI10 {α : Type} (l : List α) : atI l 10 = l[10]? := atI_n l 10
@[simp] theorem ixN10 (m : Nat) (h : 10 < m) : ixN m 10 = some 10 := ixN_nat m 10 h
@[simp] theorem atI11 {α : Type} (l : List α) : atI l 11 = l[11]? := atI_n l 11
@[simp] theorem ixN11 (m : Nat) (h : 11 < m) : ixN m 11 = some 11 := ixN_nat m 11 h
@[simp] theorem atI12 {α : Type} (l : List α) : atI l 12 = l[12]? := atI_n l 12
@[simp] theorem ixN12 (m : Nat) (h : 12 < m) : ixN m 12 = some 12 := ixN_nat m 12 h
theorem lt_pow_big {n k : Nat} (h : n < 2 ^ 200) (hk : 200 ≤ k) : n < 2 ^ k := Nat.lt_of_lt_of_le h (Nat.pow_le_pow_right (by decide) hk)
theorem cMul_ok {i j : Int} (h1 : i.natAbs < 2 ^ 200) (h2 : j.natAbs < 2 ^ 200) : cMul i j = true := by
  unfold cMul
  rw [decide_eq_true (lt_pow_big h1 (by decide)), decide_eq_true (lt_pow_big h2 (by decide))]
  rfl
theorem cDiv_ok {i j : Int} (h1 : 0 < j) (h2 : j.natAbs < 2 ^ 200) : cDiv i j = true := by
  unfold cDiv
  rw [decide_eq_true h1, decide_eq_true (lt_pow_big h2 (by decide))]
  rfl
theorem cMod_ok {i j : Int} (h1 : 0 < j) : cMod i j = true := decide_eq_true h1
theorem vLoop_nx {g : D → DEnv → Option DEnv} {tb : DEnv → Ot} {d : D} {r : List D} {de de1 de2 : DEnv} (h1 : g d de = some de1) (h2 : tb de1 = .nx de2) : vLoop g tb (d :: r) de = vLoop g tb r de2 := by
  rw [vLoop, h1]; dsimp only; rw [h2]
theorem vLoop_ct {g : D → DEnv → Option DEnv} {tb : DEnv → Ot} {d : D} {r : List D} {de de1 de2 : DEnv} (h1 : g d de = some de1) (h2 : tb de1 = .ct de2) : vLoop g tb (d :: r) de = vLoop g tb r de2 := by
  rw [vLoop, h1]; dsimp only; rw [h2]
section
variable {k : Nat} {de : DEnv} {d : D} {f : PySem.Str}
@[simp] theorem ps243 : vVarA k de (some (.cn d)) = .ok d de := Eq.trans rfl rfl
@[simp] theorem ps244 : (Sl.cn d).dat = some d := Eq.trans rfl rfl
@[simp] theorem ps245 : noEx (.cn d) = false := Eq.trans rfl rfl
end
end DL
set_option maxRecDepth 100000
set_option maxHeartbeats 2000000
set_option autoImplicit false
/-! the plain side: more of what the evaluators answer -/
namespace DL
open L2 PySem
def orIx : Option D → D → D → Option D
  | some z, _, _ => some z
  | none, a, b => match a with
    | .dn ds => (keyN b).bind fun k => valN ds k
    | _ => none
def orIn (g : Bool → Bool) : Option D → D → D → Option D
  | some z, _, _ => some z
  | none, a, b => (entN b).bind fun ds => (keyN a).map fun k => .bl (g (valN ds k).isSome)
def orIt : Option (List D) → D → Option (List D)
  | some xs, _ => some xs
  | none, .dn ds => some (ds.map (·.1))
  | none, _ => none
def putNC (i : Nat) (v k : D) (de : DEnv) (s : Sl) (ds : List (D × D)) : Option NestedKey → Ot
  | some kk => if ds.length < 16777216 then .nx (de.set i (s.same (.dn (putN ds kk k v)))) else .bad
  | none => .bad
def putNB (i : Nat) (v k : D) (de : DEnv) (s : Sl) : Option (List (D × D)) → Ot
  | some ds => putNC i v k de s ds (keyN k)
  | none => .bad
theorem fIn_none {x y : D} {e : List (D × D)} (h : entN y = some e) : fIn x y = none := by
  cases y <;> first | rfl | (cases h; done)
theorem fNotIn_none {x y : D} {e : List (D × D)} (h : entN y = some e) : fNotIn x y = none := by
  cases y <;> first | rfl | (cases h; done)
def callLA (n : Nat) (m : List D → Fo) (dcs : List D) (de : DEnv) : Option (List D) → Rs D
  | some ds => if ds.length + dcs.length = n then flatL de (m (ds ++ dcs)) else .bad
  | none => .bad
def dcA (de : DEnv) (vs : List Nat) : Option (List (D × D) × DEnv) → Rs D
  | some (xs, de2) => .ok (dnD xs) (restD de vs de2)
  | none => .bad
def tmA (l : List HdD) : Ot → Ot
  | .ex c fs de1 => hdsRun c fs de1 l
  | o => o
def hdB (o : Option Nat) (es : DEnv → Ot) (r : List HdD) (c : Nat) (fs : List (Str × D)) (de : DEnv) : Option Bool → Ot
  | some true => hdRun o es c fs de
  | some false => hdsRun c fs de r
  | none => .bad
def rng2A (d d' : D) (de : DEnv) : Rs (List D) := match d, d' with
  | .int i, .int j => if -(2 ^ 62) ≤ i ∧ i < 2 ^ 62 ∧ -(2 ^ 62) ≤ j ∧ j < 2 ^ 62 then .ok (rangeD i (j - i).toNat) de else .bad
  | _, _ => .bad
def enA (d : D) (de : DEnv) : Rs (List D) := match d with
  | .lst ds => .ok (enumD 0 ds) de
  | .scr ds => .ok (enumD 0 ds) de
  | _ => .bad
def zpA (d d' : D) (de : DEnv) : Rs (List D) := match d, d' with
  | .lst xs, .lst ys => .ok (zipD xs ys) de
  | .scr xs, .lst ys => .ok (zipD xs ys) de
  | .lst xs, .scr ys => .ok (zipD xs ys) de
  | .tup xs, .tup ys => .ok (zipD xs ys) de
  | _, _ => .bad
def asgA : Option DEnv → Ot
  | some de => .nx de
  | none => .bad
def augA (i : Nat) (g : Int → Int → Int) (ev : DEnv → Rs D) (de : DEnv) : Option Sl → Ot
  | some (.va a) => (ev de).out fun b de1 => augB i de1 (fAugI g a b)
  | _ => .bad
where augB (i : Nat) (de : DEnv) : Option D → Ot
  | some z => .nx (de.set i (.va z))
  | none => .bad
def mutB (i : Nat) (s : Sl) (de : DEnv) : Option (D × List D) → Rs D
  | some (r, ds) => .ok r (de.set i (s.same (.lst ds)))
  | none => .bad
def mutA (i : Nat) (g : List D → List D → Option (D × List D)) (as : List D) (de : DEnv) : Option (Sl × D) → Rs D
  | some (s, .lst ds) => mutB i s de (g ds as)
  | _ => .bad
def isNon : D → Bool
  | .non => true
  | _ => false
def callTA (n : Nat) (m : List D → Fo) (dcs : List D) (d : D) (de : DEnv) : Option (List D) → Rs D
  | some ds => if (d :: ds).length + dcs.length = n then callT de (m ((d :: ds) ++ dcs)) else .bad
  | none => .bad
def callBA (n : Nat) (m : List D → Fo) (dcs : List D) (de : DEnv) : Option (List D) → Rs D
  | some ds => if ds.length + dcs.length = n then flatO de (m (ds ++ dcs)) else .bad
  | none => .bad
def ownA : Fo → Option D
  | .ret d none => if scal d = true then some d else none
  | _ => none
def lc2A (de1 : DEnv) (vs : List Nat) : Option (List D × DEnv) → Rs D
  | some (xs, de2) => if xs.length ≤ 16777216 then .ok (.lst xs) (restD de1 vs de2) else .bad
  | none => .bad
def lcA (de1 : DEnv) (vs : List Nat) : Option (List D × DEnv) → Rs D
  | some (xs, de2) => .ok (.lst xs) (restD de1 vs de2)
  | none => .bad
section
variable {de : DEnv} {c k n i : Nat} {fs : List (Str × D)} {vs : List Nat} {v : Nat} {l r : List HdD} {eb es e1 : DEnv → Ot} {ev ev' : DEnv → Rs D} {d d' x y : D} {xs ys ds as : List D} {o : Option Nat} {mt : Nat → Option Bool} {g : D → DEnv → Option DEnv} {gs : List D → DEnv → Option DEnv} {z : Int} {s : Sl} {ea : DEnv → Rs (List D)} {gm : List D → List D → Option (D × List D)}
@[simp] theorem pt1 : vPre vs e1 de = e1 (wipeD de vs) := Eq.trans rfl rfl
@[simp] theorem pt2 : vPost vs e1 de = dropO vs (e1 de) := Eq.trans rfl rfl
@[simp] theorem pt3 {ei : DEnv → Rs (List D)} : vIdrop vs ei de = (ei de).bind fun ds de1 => .ok ds (wipeD de1 vs) := Eq.trans rfl rfl
@[simp] theorem pt4 : wipeD de [] = de := Eq.trans rfl rfl
@[simp] theorem pt5 : wipeD de (v :: vs) = (wipeD de vs).set v .no := Eq.trans rfl rfl
@[simp] theorem pt6 : dropO vs (.nx de) = .nx (wipeD de vs) := Eq.trans rfl rfl
@[simp] theorem pt7 : dropO vs (.ct de) = .ct (wipeD de vs) := Eq.trans rfl rfl
@[simp] theorem pt8 : dropO vs (.brk de) = .brk (wipeD de vs) := Eq.trans rfl rfl
@[simp] theorem pt9 : dropO vs (.ret d de) = .ret d de := Eq.trans rfl rfl
@[simp] theorem pt10 : dropO vs (.retF d de) = .retF d de := Eq.trans rfl rfl
@[simp] theorem pt11 : dropO vs (.ex c fs de) = .ex c fs de := Eq.trans rfl rfl
@[simp] theorem pt12 : vTryMany l eb de = tmA l (eb de) := by unfold vTryMany tmA <;> (cases eb de <;> rfl)
@[simp] theorem pt13 : tmA l (.nx de) = .nx de := Eq.trans rfl rfl
@[simp] theorem pt14 : tmA l (.ret d de) = .ret d de := Eq.trans rfl rfl
@[simp] theorem pt15 : tmA l (.retF d de) = .retF d de := Eq.trans rfl rfl
@[simp] theorem pt16 : tmA l (.brk de) = .brk de := Eq.trans rfl rfl
@[simp] theorem pt17 : tmA l (.ct de) = .ct de := Eq.trans rfl rfl
@[simp] theorem pt18 : tmA l (.ex c fs de) = hdsRun c fs de l := Eq.trans rfl rfl
@[simp] theorem pt19 : hdsRun c fs de [] = .ex c fs de := Eq.trans rfl rfl
@[simp] theorem pt20 : hdsRun c fs de ((mt, o, es) :: r) = hdB o es r c fs de (mt c) := by (show (match mt c with | some true => hdRun o es c fs de | some false => hdsRun c fs de r | none => .bad) = _) <;> (rcases mt c with _ | b <;> first | rfl | (cases b <;> rfl))
@[simp] theorem pt21 : hdB o es r c fs de (some true) = hdRun o es c fs de := Eq.trans rfl rfl
@[simp] theorem pt22 : hdB o es r c fs de (some false) = hdsRun c fs de r := Eq.trans rfl rfl
@[simp] theorem pt23 : hdRun none es c fs de = noOut (es de) := Eq.trans rfl rfl
@[simp] theorem pt24 : hdRun (some i) es c fs de = if calmD (de.set i .no) = true then offEx i (es (de.set i (.ex c fs))) else .bad := Eq.trans rfl rfl
@[simp] theorem pt25 : vRng2 ev ev' de = (ev de).bind fun d de1 => (ev' de1).bind fun d' de2 => rng2A d d' de2 := Eq.trans rfl rfl
@[simp] theorem pt26 : vRevI ev de = (ev de).bind fun d de1 => ofO ((itemsOf d).map List.reverse) de1 := Eq.trans rfl rfl
@[simp] theorem pt27 : vEnumS ev de = (ev de).bind fun d de1 => ofO ((itemsOf d).map (enumD 0)) de1 := Eq.trans rfl rfl
@[simp] theorem pt28 : vEnumI ev de = (ev de).bind enA := Eq.trans rfl rfl
@[simp] theorem pt29 : enA (.lst ds) de = .ok (enumD 0 ds) de := Eq.trans rfl rfl
@[simp] theorem pt30 : enA (.scr ds) de = .ok (enumD 0 ds) de := Eq.trans rfl rfl
@[simp] theorem pt31 : vZipI ev ev' de = (ev de).bind fun d de1 => (ev' de1).bind fun d' de2 => zpA d d' de2 := Eq.trans rfl rfl
@[simp] theorem pt32 : zpA (.lst xs) (.lst ys) de = .ok (zipD xs ys) de := Eq.trans rfl rfl
@[simp] theorem pt33 : zpA (.tup xs) (.tup ys) de = .ok (zipD xs ys) de := Eq.trans rfl rfl
@[simp] theorem pt34 : zpA (.scr xs) (.lst ys) de = .ok (zipD xs ys) de := Eq.trans rfl rfl
@[simp] theorem pt35 : enumD n [] = [] := Eq.trans rfl rfl
@[simp] theorem pt36 : enumD n (d :: ds) = .tup [.int n, d] :: enumD (n + 1) ds := Eq.trans rfl rfl
@[simp] theorem pt37 : tgNil [] de = some de := Eq.trans rfl rfl
@[simp] theorem pt38 : tgCons g gs (d :: ds) de = (g d de).bind fun de1 => gs ds de1 := Eq.trans rfl rfl
@[simp] theorem pt39 : tgTup n gs (.tup ds) de = if ds.length = n then gs ds de else none := Eq.trans rfl rfl
@[simp] theorem pt40 : vAsg ev g de = (ev de).out fun d de1 => asgA (g d de1) := by unfold vAsg <;> (congr 1 <;> (funext d de1 <;> (cases g d de1 <;> rfl)))
@[simp] theorem pt41 : asgA (some de) = .nx de := Eq.trans rfl rfl
@[simp] theorem pt42 {ga : Int → Int → Int} : vAug i ga ev de = augA i ga ev de de[i]? := by
  unfold vAug
  cases e : de[i]? with
  | none => rfl
  | some s => cases s with
    | va a => ((show (ev de).out _ = (ev de).out _) <;> (congr 1 <;> (funext b de1 <;> (cases fAugI ga a b <;> rfl))))
    | _ => rfl
@[simp] theorem pt43 {ga : Int → Int → Int} {a : D} : augA i ga ev de (some (.va a)) = (ev de).out fun b de1 => augA.augB i de1 (fAugI ga a b) := Eq.trans rfl rfl
@[simp] theorem pt44 : augA.augB i de (some d) = .nx (de.set i (.va d)) := Eq.trans rfl rfl
@[simp] theorem pt45 {ga : Int → Int → Int} {a b : Int} : fAugI ga (.int a) (.int b) = some (.int (ga a b)) := Eq.trans rfl rfl
@[simp] theorem pt46 : vMut i gm ea de = if ((slotAt i de).map isLst).getD false = true then (ea de).bind fun as de1 => mutA i gm as de1 (slotOw i de1) else .bad := by
  unfold vMut
  refine congrArg (fun f => if ((slotAt i de).map isLst).getD false = true then (ea de).bind f else Rs.bad) ?_
  funext as de1
  cases slotOw i de1 with
  | none => rfl
  | some p =>
    obtain ⟨s, x⟩ := p
    cases x with
    | lst ds => (show (match gm ds as with | some (r, ds') => Rs.ok r (de1.set i (s.same (.lst ds'))) | none => .bad) = mutB i s de1 (gm ds as)); cases gm ds as with | none => rfl | some q => cases q; rfl
    | _ => rfl
@[simp] theorem pt47 : mutA i gm as de (some (s, .lst ds)) = mutB i s de (gm ds as) := Eq.trans rfl rfl
@[simp] theorem pt48 : mutB i s de (some (d, ds)) = .ok d (de.set i (s.same (.lst ds))) := Eq.trans rfl rfl
@[simp] theorem pt49 (h : ds.length < 16777216) : gAppend ds [d] = some (.non, ds ++ [d]) := by unfold gAppend; dsimp only; rw [if_pos h]
@[simp] theorem pt50 : gClear ds [] = some (.non, []) := Eq.trans rfl rfl
@[simp] theorem pt51 (h : ds.length + as.length ≤ 16777216) : gExtend ds [.lst as] = some (.non, ds ++ as) := by unfold gExtend; dsimp only; rw [if_pos h]
@[simp] theorem pt52 : fIsN d .non = some (.bl (isNon d)) := by cases d <;> rfl
@[simp] theorem pt53 : fNotN d .non = some (.bl (!isNon d)) := by cases d <;> rfl
@[simp] theorem pt54 : isNon .non = true := Eq.trans rfl rfl
@[simp] theorem pt55 {b : Bool} : isNon (.bl b) = false := Eq.trans rfl rfl
@[simp] theorem pt56 : isNon (.int z) = false := Eq.trans rfl rfl
@[simp] theorem pt57 : isNon (.tup xs) = false := Eq.trans rfl rfl
@[simp] theorem pt58 : isNon (.lst xs) = false := Eq.trans rfl rfl
@[simp] theorem pt59 : isNon (.scr xs) = false := Eq.trans rfl rfl
@[simp] theorem pt60 {u : Str} : isNon (.str u) = false := Eq.trans rfl rfl
@[simp] theorem pt61 : isNon (.obj c fs) = false := Eq.trans rfl rfl
@[simp] theorem pt62 {kvs : List (Key × D)} : isNon (.dk kvs) = false := Eq.trans rfl rfl
@[simp] theorem pt63 {ei : DEnv → Rs (List D)} {tt : DEnv → Rs Bool} {te : DEnv → Rs D} : vLc vs ei g tt te de = (ei de).bind fun ds de1 => if plainAt de1 vs = true ∧ ds.length ≤ 16777216 then lcA de1 vs (lcGo vs g tt te ds (wipeD de1 vs)) else .bad := by unfold vLc <;> (congr 1 <;> (funext ds de1 <;> (congr 1 <;> (rcases lcGo vs g tt te ds (wipeD de1 vs) with _ | ⟨a, b⟩ <;> rfl))))
@[simp] theorem pt64 {e2 : DEnv} : lcA de vs (some (xs, e2)) = .ok (.lst xs) (restD de vs e2) := Eq.trans rfl rfl
@[simp] theorem pt65 {e0 : DEnv} : restD e0 [] de = de := Eq.trans rfl rfl
@[simp] theorem pt66 {e0 : DEnv} : restD e0 (v :: vs) de = (restD e0 vs de).set v (e0.getD v .no) := Eq.trans rfl rfl
@[simp] theorem pt67 : plainAt de [] = true := Eq.trans rfl rfl
@[simp] theorem pt68 : plainAt de (v :: vs) = (plainS de[v]? && plainAt de vs) := Eq.trans rfl rfl
@[simp] theorem pt69 : plainS none = true := Eq.trans rfl rfl
@[simp] theorem pt70 : plainS (some .no) = true := Eq.trans rfl rfl
@[simp] theorem pt71 : plainS (some (.va d)) = true := Eq.trans rfl rfl
@[simp] theorem pt72 : vYes de = .ok true de := Eq.trans rfl rfl
@[simp] theorem pt73 {m : List D → Fo} {dcs : List D} {ec : DEnv → Rs (List CA)} : wCallB n m dcs ec de = (ec de).bind fun cs de1 => callB n m dcs cs de1 := Eq.trans rfl rfl
@[simp] theorem pt74 {m : List D → Fo} {dcs : List D} {cs : List CA} : callB n m dcs cs de = callBA n m dcs de (argB de cs) := by unfold callB; cases argB de cs <;> rfl
@[simp] theorem pt75 {m : List D → Fo} {dcs : List D} : callBA n m dcs de (some ds) = if ds.length + dcs.length = n then flatO de (m (ds ++ dcs)) else .bad := Eq.trans rfl rfl
@[simp] theorem pt76 {cs : List CA} : argB de (.v d :: cs) = (argB de cs).map (d :: ·) := Eq.trans rfl rfl
@[simp] theorem pt77 {cs : List CA} : argB de (.s i :: cs) = (slotAt i de).bind fun d => (argB de cs).map (d :: ·) := Eq.trans rfl rfl
@[simp] theorem pt78 : argB de [] = some [] := Eq.trans rfl rfl
@[simp] theorem pt79 : flatO de (.ret d none) = if scal d = true then .ok d de else .bad := Eq.trans rfl rfl
@[simp] theorem pt80 : scal .non = true := Eq.trans rfl rfl
@[simp] theorem pt81 {b : Bool} : scal (.bl b) = true := Eq.trans rfl rfl
@[simp] theorem pt82 : scal (.int z) = true := Eq.trans rfl rfl
@[simp] theorem pt83 {u : Str} : scal (.str u) = true := Eq.trans rfl rfl
@[simp] theorem pt84 {er : DEnv → Rs (Int × Int)} : vListRg er de = (er de).bind fun p de1 => if -1000000 ≤ p.1 ∧ p.1 ≤ 1000000 ∧ -1000000 ≤ p.2 ∧ p.2 ≤ 1000000 then .ok (.lst (rangeD p.1 (p.2 - p.1).toNat)) de1 else .bad := Eq.trans rfl rfl
@[simp] theorem pt85 : vR1 ev de = (ev de).bind fun d de1 => ofO ((asI d).map fun n => (0, n)) de1 := Eq.trans rfl rfl
@[simp] theorem pt86 : vR2 ev ev' de = (ev de).bind fun d de1 => (ev' de1).bind fun d' de2 => ofO ((asI d).bind fun i => (asI d').map fun j => (i, j)) de2 := Eq.trans rfl rfl
@[simp] theorem pt87 : fSum [.lst ds] = (asIs ds).map fun ns => .int ns.sum := Eq.trans rfl rfl
@[simp] theorem pt88 (ns : List Int) : asIs (ns.map D.int) = some ns := by induction ns with | nil => rfl | cons i r ih => (show (asIs (r.map D.int)).map (i :: ·) = _); rw [ih]; rfl
@[simp] theorem pt89 : fRepr [d] = (reprD d).map .str := Eq.trans rfl rfl
@[simp] theorem pt90 : truD (.int z) = some (z != 0) := Eq.trans rfl rfl
@[simp] theorem pt91 : truD (.tup xs) = some (!xs.isEmpty) := Eq.trans rfl rfl
@[simp] theorem pt92 : truD (.lst xs) = some (!xs.isEmpty) := Eq.trans rfl rfl
@[simp] theorem pt93 : truD .non = some false := Eq.trans rfl rfl
@[simp] theorem pt94 {b : Bool} : fInt [.bl b] = some (.int (if b then 1 else 0)) := Eq.trans rfl rfl
@[simp] theorem pt95 (h : z.natAbs.log2 < 1920) : fStrI [.int z] = some (.str (toString z)) := by unfold fStrI; dsimp only; rw [if_pos h]
end
/-! toPy and its kin, by what stands there -/
section
variable {z w : Int} {b a : Bool} {u v : Str} {d : D} {ds es : List D}
@[simp] theorem pt97 : toPy .non = .none := Eq.trans rfl rfl
@[simp] theorem pt98 : toPy (.bl b) = .bool b := Eq.trans rfl rfl
@[simp] theorem pt99 : toPy (.int z) = .int z := Eq.trans rfl rfl
@[simp] theorem pt100 : toPy (.str u) = .str u := Eq.trans rfl rfl
@[simp] theorem pt101 : toPy (.tup ds) = .tuple (toPys ds) := Eq.trans rfl rfl
@[simp] theorem pt102 : toPy (.lst ds) = .list (toPys ds) := Eq.trans rfl rfl
@[simp] theorem pt103 : toPys [] = [] := Eq.trans rfl rfl
@[simp] theorem pt104 : toPys (d :: ds) = toPy d :: toPys ds := Eq.trans rfl rfl
@[simp] theorem pt105 {c n : Nat} {mu : Option Nat} {ev : DEnv → Rs D} {de : DEnv} {nm : Str} {m : List D → Fo} {ar : List D → List D → List D} {ek : DEnv → Rs (List D)} : wMethK c nm n mu m ar ev ek de = (ev de).bind fun d de1 => if isOb c nm d = true then (ek de1).bind fun zs de2 => callC n mu m [] (.v d :: (ar [] zs).map CA.v) de2 else .bad := Eq.trans rfl rfl
@[simp] theorem pt106 {c n : Nat} {mu : Option Nat} {ev : DEnv → Rs D} {de : DEnv} {nm : Str} {m : List D → Fo} {dcs : List D} {ea : DEnv → Rs (List CA)} : wMeth c nm n mu m dcs ev ea de = (ev de).bind fun d de1 => if isOb c nm d = true then (ea de1).bind fun cs de2 => callC n mu m dcs (.v d :: cs) de2 else .bad := Eq.trans rfl rfl
@[simp] theorem pt107 {c n : Nat} {mu : Option Nat} {ev : DEnv → Rs D} {de : DEnv} {nm : Str} {m : List D → Fo} {dcs : List D} {ea : DEnv → Rs (List CA)} : wMethF c nm n mu m dcs ev ea de = (ev de).bind fun d de1 => if isOb c nm d = true then (ea de1).bind fun cs de2 => callCF n mu m dcs (.v d :: cs) de2 else .bad := Eq.trans rfl rfl
@[simp] theorem pt108 {c n i : Nat} {mu : Option Nat} {de : DEnv} {nm : Str} {m : List D → Fo} {dcs : List D} {ea : DEnv → Rs (List CA)} : wMethS c nm n mu m dcs i ea de = if ((slotAt i de).map (isOb c nm)).getD false = true then (ea de).bind fun cs de2 => callC n mu m dcs (.s i :: cs) de2 else .bad := Eq.trans rfl rfl
@[simp] theorem pt109 {c n i : Nat} {mu : Option Nat} {de : DEnv} {nm : Str} {m : List D → Fo} {dcs : List D} {ea : DEnv → Rs (List CA)} : wMethSF c nm n mu m dcs i ea de = if ((slotAt i de).map (isOb c nm)).getD false = true then (ea de).bind fun cs de2 => callCF n mu m dcs (.s i :: cs) de2 else .bad := Eq.trans rfl rfl
@[simp] theorem pt110 {g : Bool → Bool} {xs ys : List (D × D)} : fEqN g (.dn xs) (.dn ys) = (eqGo ys xs).map fun r => .bl (g (xs.length == ys.length && r)) := Eq.trans rfl rfl
@[simp] theorem pt111 {i : Nat} {cl : List Nat} {f : Str} {g : Int → Int → Int} {ev : DEnv → Rs D} {de : DEnv} : vAugFld i cl f g ev de = augFA i cl f g ev de (slotOw i de) := Eq.trans rfl rfl
@[simp] theorem pt112 {i c : Nat} {cl : List Nat} {f : Str} {g : Int → Int → Int} {ev : DEnv → Rs D} {de : DEnv} {s : Sl} {fs : List (Str × D)} : augFA i cl f g ev de (some (s, .obj c fs)) = if cl.contains c = true then augFL i c f g ev de (fs.lookup f) else .bad := Eq.trans rfl rfl
@[simp] theorem pt113 {i c : Nat} {f : Str} {g : Int → Int → Int} {ev : DEnv → Rs D} {de : DEnv} {a : Int} : augFL i c f g ev de (some (.int a)) = (ev de).out fun b de1 => augFI i c f g a de1 b := Eq.trans rfl rfl
@[simp] theorem pt114 {i c : Nat} {f : Str} {g : Int → Int → Int} {de : DEnv} {a j : Int} : augFI i c f g a de (.int j) = augFB i c f (g a j) de (slotOw i de) := Eq.trans rfl rfl
@[simp] theorem pt115 {i c c2 : Nat} {f : Str} {de : DEnv} {z : Int} {s : Sl} {fs : List (Str × D)} : augFB i c f z de (some (s, .obj c2 fs)) = if c2 = c ∧ fs.length < 1000 then .nx (de.set i (s.same (.obj c2 (putD f (.int z) fs)))) else .bad := Eq.trans rfl rfl
@[simp] theorem pt116 {i j : Int} (h : cDivG i j = true) : fFdivG (.int i) (.int j) = some (.int (i.fdiv j)) := by show (if cDivG i j = true then _ else _) = _; rw [if_pos h]
@[simp] theorem pt117 {cs : List Nat} {c c2 : Nat} {m : List D → Fo} {fs : List (Str × D)} {b : D} : fOwn cs c m (.obj c2 fs) b = if c2 = c then (tyOf b).bind fun s => if (tyIn cs s || tyN s) = true then ownA (m [.obj c2 fs, b]) else none else none := Eq.trans rfl rfl
@[simp] theorem pt118 {d : D} : ownA (.ret d none) = if scal d = true then some d else none := Eq.trans rfl rfl
@[simp] theorem pt119 {cs : List Nat} {c : Nat} {m : List D → Fo} {z : Int} {b : D} : fEqA cs c m (.int z) b = fEq (.int z) b := Eq.trans rfl rfl
@[simp] theorem pt120 {cs : List Nat} {c : Nat} {m : List D → Fo} {x : Bool} {b : D} : fEqA cs c m (.bl x) b = fEq (.bl x) b := Eq.trans rfl rfl
@[simp] theorem pt121 {cs : List Nat} {c : Nat} {m : List D → Fo} {x : Str} {b : D} : fEqA cs c m (.str x) b = fEq (.str x) b := Eq.trans rfl rfl
@[simp] theorem pt122 {cs : List Nat} {c : Nat} {m : List D → Fo} {xs : List D} {b : D} : fEqA cs c m (.tup xs) b = fEq (.tup xs) b := Eq.trans rfl rfl
@[simp] theorem pt123 {cs : List Nat} {c : Nat} {m : List D → Fo} {xs : List D} {b : D} : fEqA cs c m (.lst xs) b = fEq (.lst xs) b := Eq.trans rfl rfl
@[simp] theorem pt124 {cs : List Nat} {c : Nat} {m : List D → Fo}  {b : D} : fEqA cs c m (.non) b = fEq (.non) b := Eq.trans rfl rfl
@[simp] theorem pt125 {cs : List Nat} {c : Nat} {m : List D → Fo} {z : Int} {b : D} : fNeA cs c m (.int z) b = fNe (.int z) b := Eq.trans rfl rfl
@[simp] theorem pt126 {cs : List Nat} {c : Nat} {m : List D → Fo} {x : Bool} {b : D} : fNeA cs c m (.bl x) b = fNe (.bl x) b := Eq.trans rfl rfl
@[simp] theorem pt127 {cs : List Nat} {c : Nat} {m : List D → Fo} {x : Str} {b : D} : fNeA cs c m (.str x) b = fNe (.str x) b := Eq.trans rfl rfl
@[simp] theorem pt128 {cs : List Nat} {c : Nat} {m : List D → Fo} {xs : List D} {b : D} : fNeA cs c m (.tup xs) b = fNe (.tup xs) b := Eq.trans rfl rfl
@[simp] theorem pt129 {cs : List Nat} {c : Nat} {m : List D → Fo} {xs : List D} {b : D} : fNeA cs c m (.lst xs) b = fNe (.lst xs) b := Eq.trans rfl rfl
@[simp] theorem pt130 {cs : List Nat} {c : Nat} {m : List D → Fo}  {b : D} : fNeA cs c m (.non) b = fNe (.non) b := Eq.trans rfl rfl
@[simp] theorem pt131 {cs : List Nat} {c c2 : Nat} {m : List D → Fo} {fs : List (Str × D)} {b : D} : fEqA cs c m (.obj c2 fs) b = fOwn cs c m (.obj c2 fs) b := Eq.trans rfl rfl
@[simp] theorem pt132 {cs : List Nat} {c c2 : Nat} {m : List D → Fo} {fs : List (Str × D)} {b : D} : fNeA cs c m (.obj c2 fs) b = fNegB (fOwn cs c m (.obj c2 fs) b) := Eq.trans rfl rfl
@[simp] theorem pt133 {b : Bool} : fNegB (some (.bl b)) = some (.bl (!b)) := Eq.trans rfl rfl
@[simp] theorem pt134 {vs vs1 : List Nat} {ei ei1 : DEnv → Rs (List D)} {g g1 : D → DEnv → Option DEnv} {tt tt1 : DEnv → Rs Bool} {te : DEnv → Rs D} {de : DEnv} : vLc2 vs vs1 ei g tt ei1 g1 tt1 te de = (ei de).bind fun ds de1 => if plainAt de1 vs = true then lc2A de1 vs (lcGo2 vs vs1 g tt ei1 g1 tt1 te ds (wipeD de1 vs)) else .bad := Eq.trans rfl rfl
@[simp] theorem pt135 {vs : List Nat} {de e2 : DEnv} {xs : List D} : lc2A de vs (some (xs, e2)) = if xs.length ≤ 16777216 then .ok (.lst xs) (restD de vs e2) else .bad := Eq.trans rfl rfl
@[simp] theorem pt136 {n : Nat} {ev : DEnv → Rs D} {de : DEnv} {m : List D → Fo} {dcs : List D} {ec : DEnv → Rs (List CA)} : wCallT n m dcs ev ec de = (ev de).bind fun d de1 => (ec de1).bind fun cs de2 => callTA n m dcs d de2 (argD none cs de2) := by unfold wCallT callTA; congr 1 <;> (funext d de1; congr 1)
@[simp] theorem pt137 {n : Nat} {de : DEnv} {m : List D → Fo} {dcs ds : List D} {d : D} : callTA n m dcs d de (some ds) = if (d :: ds).length + dcs.length = n then callT de (m ((d :: ds) ++ dcs)) else .bad := Eq.trans rfl rfl
@[simp] theorem pt138 {d : D} {de : DEnv} {q : Option D} : callT de (.ret d q) = .ok d de := Eq.trans rfl rfl
@[simp] theorem pt139 {d : D} {de : DEnv} {q : Option D} : callT de (.retF d q) = .ok d de := Eq.trans rfl rfl
@[simp] theorem pt140 {c : Nat} {fs : List (Str × D)} {de : DEnv} {q : Option D} : callT de (.ex c fs q) = .ex c fs de := Eq.trans rfl rfl
@[simp] theorem pt141 {x y : D} : fIxN x y = orIx (fIx x y) x y := by unfold fIxN orIx; cases x <;> first | rfl | (cases fIx _ y <;> rfl)
@[simp] theorem pt142 {x y z : D} : orIx (some z) x y = some z := Eq.trans rfl rfl
@[simp] theorem pt143 {y : D} {kvs : List (D × D)} : orIx none (.dn kvs) y = (keyN y).bind fun k => valN kvs k := Eq.trans rfl rfl
@[simp] theorem pt144 {x y : D} : fInN x y = orIn (fun b => b) (fIn x y) x y := by unfold fInN orIn; cases h : entN y with | none => (dsimp only; cases fIn x y <;> simp [h]) | some e => (rw [fIn_none h]; simp [h])
@[simp] theorem pt145 {x y : D} : fNotInN x y = orIn not (fNotIn x y) x y := by unfold fNotInN orIn; cases h : entN y with | none => (dsimp only; cases fNotIn x y <;> simp [h]) | some e => (rw [fNotIn_none h]; simp [h])
@[simp] theorem pt146 {g : Bool → Bool} {x y z : D} : orIn g (some z) x y = some z := Eq.trans rfl rfl
@[simp] theorem pt147 {g : Bool → Bool} {x : D} {e : List (D × D)} : orIn g none x (.dn e) = (keyN x).map fun k => .bl (g (valN e k).isSome) := Eq.trans rfl rfl
@[simp] theorem pt148 {g : Bool → Bool} {x : D} : orIn g none x (.dk []) = (keyN x).map fun k => .bl (g false) := Eq.trans rfl rfl
@[simp] theorem pt149 {e : List (D × D)} : tyOf (.dn e) = some (.b "dict") := Eq.trans rfl rfl
@[simp] theorem pt150 {e : List (D × D)} : isNon (.dn e) = false := Eq.trans rfl rfl
@[simp] theorem pt151 {e : List (D × D)} : entN (.dn e) = some e := Eq.trans rfl rfl
@[simp] theorem pt152 : entN (.dk []) = some [] := Eq.trans rfl rfl
@[simp] theorem pt153 {ev : DEnv → Rs D} {de : DEnv} : vSeqN ev de = (ev de).bind fun x de1 => ofO (itemsN x) de1 := Eq.trans rfl rfl
@[simp] theorem pt154 {x : D} : itemsN x = orIt (itemsOf x) x := by unfold itemsN orIt; cases x <;> first | rfl | (cases itemsOf _ <;> rfl)
@[simp] theorem pt155 {x : D} {xs : List D} : orIt (some xs) x = some xs := Eq.trans rfl rfl
@[simp] theorem pt156 {e : List (D × D)} : orIt none (.dn e) = some (e.map (·.1)) := Eq.trans rfl rfl
@[simp] theorem pt157 {i : Nat} {e1 e2 : DEnv → Rs D} {de : DEnv} : vSetN i e1 e2 de = (e1 de).out fun v de1 => if (slotAt i de1).isSome = true then (e2 de1).out fun k de2 => putNA i v k de2 (slotOw i de2) else .bad := Eq.trans rfl rfl
@[simp] theorem pt158 {i : Nat} {v k : D} {s : Sl} {de : DEnv} {e : List (D × D)} : putNB i v k de s (some e) = putNC i v k de s e (keyN k) := Eq.trans rfl rfl
@[simp] theorem pt159 {i : Nat} {v k : D} {s : Sl} {de : DEnv} {e : List (D × D)} {kk : NestedKey} : putNC i v k de s e (some kk) = if e.length < 16777216 then .nx (de.set i (s.same (.dn (putN e kk k v)))) else .bad := Eq.trans rfl rfl
@[simp] theorem pt160 {c : Nat} {m : List D → Fo} {ev ev' : DEnv → Rs D} {de : DEnv} : vOwnIx c m ev ev' de = (ev de).bind fun x de1 => (ev' de1).bind fun y de2 => if isC c x = true then callC 2 none m [] [.v x, .v y] de2 else .bad := Eq.trans rfl rfl
@[simp] theorem pt161 {c c2 : Nat} {fs : List (Str × D)} : isC c (.obj c2 fs) = (c2 == c) := Eq.trans rfl rfl
@[simp] theorem pt162 {n : Nat} {m : List D → Fo} {dcs : List D} {ec : DEnv → Rs (List CA)} {de : DEnv} : wCallL n m dcs ec de = (ec de).bind fun cs de1 => callL n m dcs cs de1 := Eq.trans rfl rfl
@[simp] theorem pt163 {n : Nat} {m : List D → Fo} {dcs : List D} {cs : List CA} {de : DEnv} : callL n m dcs cs de = callLA n m dcs de (argB de cs) := by unfold callL; cases argB de cs <;> rfl
@[simp] theorem pt164 {n : Nat} {m : List D → Fo} {dcs ds : List D} {de : DEnv} : callLA n m dcs de (some ds) = if ds.length + dcs.length = n then flatL de (m (ds ++ dcs)) else .bad := Eq.trans rfl rfl
@[simp] theorem pt165 {ds : List D} {de : DEnv} : flatL de (.retF (.lst ds) none) = if flDs ds = true then .ok (.lst ds) de else .bad := Eq.trans rfl rfl
@[simp] theorem pt166 {vs : List Nat} {ei : DEnv → Rs (List D)} {g : D → DEnv → Option DEnv} {tt : DEnv → Rs Bool} {tk tv : DEnv → Rs D} {de : DEnv} : vDc vs ei g tt tk tv de = (ei de).bind fun ds de1 => if plainAt de1 vs = true ∧ ds.length ≤ 1000000 then dcA de1 vs (dcGo vs g tt tk tv ds [] (wipeD de1 vs)) else .bad := by unfold vDc <;> (congr 1 <;> (funext ds de1 <;> (congr 1 <;> (rcases dcGo vs g tt tk tv ds [] (wipeD de1 vs) with _ | ⟨a, b⟩ <;> rfl))))
@[simp] theorem pt167 {vs : List Nat} {de de2 : DEnv} {xs : List (D × D)} : dcA de vs (some (xs, de2)) = .ok (dnD xs) (restD de vs de2) := Eq.trans rfl rfl
@[simp] theorem pt168 {c : Nat} {m : List D → Fo} {fs : List (Str × D)} : fLenO c m [.obj c fs] = lenOk (m [.obj c fs]) := by show (if c = c then lenOk (m [.obj c fs]) else none) = _; rw [if_pos rfl]
@[simp] theorem pt169 {n : Int} : lenOk (.ret (.int n) none) = if 0 ≤ n ∧ n < 9223372036854775808 then some (.int n) else none := Eq.trans rfl rfl
end
theorem pt_tup {ds : List D} : toPy (.tup ds) = .tuple (toPys ds) := Eq.trans rfl rfl
@[simp] theorem shp_eq (d : PyData) : SeqAt.shaped d = (d.canLay0 && decide (d.depth ≤ 64)) := Eq.trans rfl rfl
section
variable {z w : Int} {b a : Bool} {u v : Str} {d e : PyData} {ds es : List PyData}
@[simp] theorem cl1 : PyData.none.canLay0 = true := Eq.trans rfl rfl
@[simp] theorem cl2 : (PyData.bool b).canLay0 = true := Eq.trans rfl rfl
@[simp] theorem cl3 : (PyData.int z).canLay0 = true := Eq.trans rfl rfl
@[simp] theorem cl4 : (PyData.list ds).canLay0 = PyData.canLayAll0 ds := by rw [PyData.canLay0]
@[simp] theorem cl5 : (PyData.tuple ds).canLay0 = PyData.canLayAll0 ds := by rw [PyData.canLay0]
@[simp] theorem cl6 : PyData.canLayAll0 [] = true := by rw [PyData.canLayAll0]
@[simp] theorem cl7 : PyData.canLayAll0 (d :: ds) = (d.canLay0 && PyData.canLayAll0 ds) := by rw [PyData.canLayAll0]
@[simp] theorem dp1 : PyData.none.depth = 0 := Eq.trans rfl rfl
@[simp] theorem dp2 : (PyData.bool b).depth = 0 := Eq.trans rfl rfl
@[simp] theorem dp3 : (PyData.int z).depth = 0 := Eq.trans rfl rfl
@[simp] theorem dp4 : (PyData.str u).depth = 0 := Eq.trans rfl rfl
@[simp] theorem dp5 : (PyData.list ds).depth = PyData.depthAll ds + 1 := by rw [PyData.depth]
@[simp] theorem dp6 : (PyData.tuple ds).depth = PyData.depthAll ds + 1 := by rw [PyData.depth]
@[simp] theorem dp7 : PyData.depthAll [] = 0 := by rw [PyData.depthAll]
@[simp] theorem dp8 : PyData.depthAll (d :: ds) = max d.depth (PyData.depthAll ds) := by rw [PyData.depthAll]
@[simp] theorem ev1 : PyData.eqv .none .none = true := by rw [PyData.eqv]
@[simp] theorem ev2 : PyData.eqv (.int z) (.int w) = decide (z = w) := by rw [PyData.eqv]; by_cases h : z = w <;> simp [h]
@[simp] theorem ev3 : PyData.eqv (.bool a) (.bool b) = (a == b) := by rw [PyData.eqv]
@[simp] theorem ev4 : PyData.eqv (.str u) (.str v) = decide (u = v) := by rw [PyData.eqv]; by_cases h : u = v <;> simp [h]
@[simp] theorem ev5 : PyData.eqv (.tuple ds) (.tuple es) = PyData.eqvAll ds es := by rw [PyData.eqv]
@[simp] theorem ev6 : PyData.eqv (.list ds) (.list es) = PyData.eqvAll ds es := by rw [PyData.eqv]
@[simp] theorem ev7 : PyData.eqvAll [] [] = true := by rw [PyData.eqvAll]
@[simp] theorem ev8 : PyData.eqvAll (d :: ds) (e :: es) = (PyData.eqv d e && PyData.eqvAll ds es) := by rw [PyData.eqvAll]
@[simp] theorem ev9 : PyData.eqvAll [] (e :: es) = false := by rw [PyData.eqvAll]
@[simp] theorem ev10 : PyData.eqvAll (d :: ds) [] = false := by rw [PyData.eqvAll]
@[simp] theorem ev11 : PyData.eqv .none (.int z) = false := by rw [PyData.eqv]
@[simp] theorem ev12 : PyData.eqv (.int z) .none = false := by rw [PyData.eqv]
end
theorem fEq_sh (x y : D) (h1 : SeqAt.shaped (toPy x) = true) (h2 : SeqAt.shaped (toPy y) = true) : fEq x y = some (.bl (PyData.eqv (toPy x) (toPy y))) := by unfold fEq; rw [h1, h2]; rfl
theorem fNe_sh (x y : D) (h1 : SeqAt.shaped (toPy x) = true) (h2 : SeqAt.shaped (toPy y) = true) : fNe x y = some (.bl (!PyData.eqv (toPy x) (toPy y))) := by unfold fNe; rw [h1, h2]; rfl
@[simp] theorem fEq_lit {a b : String} (h1 : PyData.canLay0 (.str (Str.ofString a)) = true) (h2 : PyData.canLay0 (.str (Str.ofString b)) = true) : fEq (.str (Str.ofString a)) (.str (Str.ofString b)) = some (.bl (decide (a = b))) := by
  rw [fEq_sh _ _ (by simp [h1]) (by simp [h2])]
  simp
@[simp] theorem fNe_lit {a b : String} (h1 : PyData.canLay0 (.str (Str.ofString a)) = true) (h2 : PyData.canLay0 (.str (Str.ofString b)) = true) : fNe (.str (Str.ofString a)) (.str (Str.ofString b)) = some (.bl (!decide (a = b))) := by
  rw [fNe_sh _ _ (by simp [h1]) (by simp [h2])]
  simp
@[simp] theorem fEq_tup {xs ys : List D} (h1 : SeqAt.shaped (.tuple (toPys xs)) = true) (h2 : SeqAt.shaped (.tuple (toPys ys)) = true) : fEq (.tup xs) (.tup ys) = some (.bl (PyData.eqvAll (toPys xs) (toPys ys))) := by
  rw [fEq_sh _ _ (by rw [pt_tup]; exact h1) (by rw [pt_tup]; exact h2)]
  simp
@[simp] theorem fNe_tup {xs ys : List D} (h1 : SeqAt.shaped (.tuple (toPys xs)) = true) (h2 : SeqAt.shaped (.tuple (toPys ys)) = true) : fNe (.tup xs) (.tup ys) = some (.bl (!PyData.eqvAll (toPys xs) (toPys ys))) := by
  rw [fNe_sh _ _ (by rw [pt_tup]; exact h1) (by rw [pt_tup]; exact h2)]
  simp
theorem rngE {j : Int} {n : Nat} (h : j = n) (hn : n ≤ 100000000) (de : DEnv) : rngA (.int j) de = .ok (rangeD 0 n) de := by rw [h]; exact rngA_n n hn de
/-- a comprehension that takes what a function says -/
theorem lcGo_fm {vs : List Nat} {g : D → DEnv → Option DEnv} {tt : DEnv → Rs Bool} {te : DEnv → Rs D} {de : DEnv} {α : Type} (em : α → D) (f : α → Option D) : ∀ (l : List α),
    (∀ a ∈ l, ∃ de1 de2, g (em a) de = some de1 ∧ wipeD de2 vs = de ∧ match f a with
      | some y => ∃ de3, tt de1 = .ok true de3 ∧ te de3 = .ok y de2
      | none => tt de1 = .ok false de2) → lcGo vs g tt te (l.map em) de = some (l.filterMap f, de)
  | [], _ => rfl
  | a :: l, h => by
    obtain ⟨de1, de2, h1, h2, h3⟩ := h a List.mem_cons_self
    have ih := lcGo_fm (vs := vs) (g := g) (tt := tt) (te := te) (de := de) em f l fun x hx => h x (List.mem_cons_of_mem _ hx)
    rw [List.map_cons, lcGo, h1]
    cases e : f a with
    | some y =>
      rw [e] at h3
      obtain ⟨de3, h4, h5⟩ := h3
      simp [h4, h5, h2, ih, e]
    | none =>
      rw [e] at h3
      have h3 : tt de1 = .ok false de2 := h3
      simp [h3, h2, ih, e]
theorem lcGo_map {vs : List Nat} {g : D → DEnv → Option DEnv} {te : DEnv → Rs D} {de : DEnv} {α : Type} (em : α → D) (f : α → D) (l : List α)
    (h : ∀ a ∈ l, ∃ de1 de2, g (em a) de = some de1 ∧ te de1 = .ok (f a) de2 ∧ wipeD de2 vs = de) : lcGo vs g vYes te (l.map em) de = some (l.map f, de) := by
  have := lcGo_fm (vs := vs) (g := g) (tt := vYes) (te := te) (de := de) em (fun a => some (f a)) l fun a ha => by
    obtain ⟨de1, de2, h1, h2, h3⟩ := h a ha
    exact ⟨de1, de2, h1, h3, de1, rfl, h2⟩
  rw [this, List.filterMap_eq_map']
theorem vLoop_idx {g : D → DEnv → Option DEnv} {tb : DEnv → Ot} {I : Nat → DEnv → Prop} : ∀ (l : List D) (n : Nat) (de : DEnv), I n de → (∀ k d, l[k]? = some d → ∀ de, I (n + k) de → ∃ de1 de2, g d de = some de1 ∧ (tb de1 = .nx de2 ∨ tb de1 = .ct de2) ∧ I (n + k + 1) de2) → ∃ de', vLoop g tb l de = .nx de' ∧ I (n + l.length) de'
  | [], n, de, hi, _ => ⟨de, rfl, hi⟩
  | d :: r, n, de, hi, h => by
    obtain ⟨de1, de2, h1, h2, h3⟩ := h 0 d rfl de hi
    obtain ⟨de3, k1, k2⟩ := vLoop_idx r (n + 1) de2 h3 fun k d hd de hk => by
      have e : n + 1 + k = n + (k + 1) := by omega
      rw [e] at hk ⊢
      exact h (k + 1) d (by simpa using hd) de hk
    have e : n + 1 + r.length = n + (d :: r).length := by simp; omega
    rw [e] at k2
    rcases h2 with h2 | h2
    · exact ⟨de3, by rw [vLoop_nx h1 h2, k1], k2⟩
    · exact ⟨de3, by rw [vLoop_ct h1 h2, k1], k2⟩
theorem rangeD_get (lo : Int) (n k : Nat) (d : D) (h : (rangeD lo n)[k]? = some d) : k < n ∧ d = .int (lo + k) := by
  unfold rangeD at h
  rw [List.getElem?_map] at h
  by_cases il : k < n
  · rw [List.getElem?_range il] at h
    cases h
    exact ⟨il, rfl⟩
  · rw [List.getElem?_eq_none (by simpa using Nat.le_of_not_lt il)] at h
    cases h
theorem rangeD_length (lo : Int) (n : Nat) : (rangeD lo n).length = n := by simp [rangeD]
/-- a loop over range(n), with an invariant that knows its turn -/
theorem vLoop_range {g : D → DEnv → Option DEnv} {tb : DEnv → Ot} (I : Nat → DEnv → Prop) (n : Nat) (de : DEnv) (h0 : I 0 de) (h : ∀ k, k < n → ∀ de, I k de → ∃ de1 de2, g (.int (k : Int)) de = some de1 ∧ (tb de1 = .nx de2 ∨ tb de1 = .ct de2) ∧ I (k + 1) de2) : ∃ de', vLoop g tb (rangeD 0 n) de = .nx de' ∧ I n de' := by
  obtain ⟨de', e, i⟩ := vLoop_idx (g := g) (tb := tb) (I := I) (rangeD 0 n) 0 de h0 fun k d hd de hk => by
    obtain ⟨kl, rfl⟩ := rangeD_get 0 n k d hd
    rw [Nat.zero_add] at hk ⊢
    rw [Int.zero_add]
    exact h k kl de hk
  rw [Nat.zero_add, rangeD_length] at i
  exact ⟨de', e, i⟩
/-- a datum that == may look at, of depth n at most -/
def Shp (n : Nat) (d : D) : Prop := (toPy d).canLay0 = true ∧ (toPy d).depth ≤ n
theorem shp_int (i : Int) : Shp 0 (.int i) := ⟨rfl, Nat.le_refl _⟩
theorem shp_str (s : PySem.Str) (h : PySem.PyData.canLay0 (.str s) = true) : Shp 0 (.str s) := ⟨h, Nat.le_refl _⟩
theorem Shp.up {n m : Nat} {d : D} (h : Shp n d) (l : n ≤ m) : Shp m d := ⟨h.1, Nat.le_trans h.2 l⟩
theorem shps {n : Nat} : ∀ (ds : List D), (∀ d ∈ ds, Shp n d) → PySem.PyData.canLayAll0 (toPys ds) = true ∧ PySem.PyData.depthAll (toPys ds) ≤ n
  | [], _ => ⟨rfl, Nat.zero_le _⟩
  | d :: r, h => by
    obtain ⟨h1, h2⟩ := shps r fun d hd => h d (List.mem_cons_of_mem _ hd)
    obtain ⟨h3, h4⟩ := h d List.mem_cons_self
    exact ⟨by simp [toPys, PySem.PyData.canLayAll0, h1, h3], by simp only [toPys, PySem.PyData.depthAll]; omega⟩
theorem shp_tup {n : Nat} {ds : List D} (h : ∀ d ∈ ds, Shp n d) : Shp (n + 1) (.tup ds) := by
  obtain ⟨h1, h2⟩ := shps ds h
  exact ⟨by simpa [toPy, PySem.PyData.canLay0] using h1, by simp only [toPy, PySem.PyData.depth]; omega⟩
theorem shp_lst {n : Nat} {ds : List D} (h : ∀ d ∈ ds, Shp n d) : Shp (n + 1) (.lst ds) := by
  obtain ⟨h1, h2⟩ := shps ds h
  exact ⟨by simpa [toPy, PySem.PyData.canLay0] using h1, by simp only [toPy, PySem.PyData.depth]; omega⟩
theorem Shp.ok {n : Nat} {d : D} (h : Shp n d) (l : n ≤ 64) : PySem.SeqAt.shaped (toPy d) = true := by
  unfold PySem.SeqAt.shaped
  rw [h.1, decide_eq_true (Nat.le_trans h.2 l)]
  rfl
theorem shp_ints (xs : List Int) : ∀ d ∈ xs.map D.int, Shp 0 d := fun d hd => by
  obtain ⟨x, _, rfl⟩ := List.mem_map.mp hd
  exact shp_int x
theorem cut_to (xs : List D) (p : Nat) : cutD xs none (some (p : Int)) = xs.take p := by
  unfold cutD
  rw [HT.sIx_nat, HT.sIx_none, List.drop_zero, Nat.sub_zero]
  by_cases h : p ≤ xs.length
  · rw [Nat.min_eq_left h]
  · rw [Nat.min_eq_right (by omega), List.take_of_length_le (by omega), List.take_of_length_le (by omega)]
theorem cut_from (xs : List D) (p : Nat) : cutD xs (some (p : Int)) none = xs.drop p := by
  unfold cutD
  rw [HT.sIx_nat, HT.sIx_none]
  by_cases h : p ≤ xs.length
  · rw [Nat.min_eq_left h, List.take_of_length_le (by simp)]
  · rw [Nat.min_eq_right (by omega), List.drop_of_length_le (by omega), List.drop_of_length_le (i := p) (by omega), List.take_nil]
theorem cut_from1 (xs : List D) (p : Nat) : cutD xs (some ((p : Int) + 1)) none = xs.drop (p + 1) := cut_from xs (p + 1)
/-- a loop that only appends -/
theorem vLoop_app {g : D → DEnv → Option DEnv} {tb : DEnv → Ot} {α β : Type} (em : α → D) (E : List β → DEnv) (G : α → List β) (N c : Nat) (hG : ∀ a, (G a).length ≤ c) : ∀ (l : List α) (acc : List β), acc.length + l.length * c ≤ N →
    (∀ a ∈ l, ∀ acc, acc.length + c ≤ N → ∃ de1, g (em a) (E acc) = some de1 ∧ (tb de1 = .nx (E (acc ++ G a)) ∨ tb de1 = .ct (E (acc ++ G a)))) → vLoop g tb (l.map em) (E acc) = .nx (E (acc ++ l.flatMap G))
  | [], acc, _, _ => by simp
  | a :: l, acc, hN, h => by
    rw [List.length_cons, Nat.add_mul] at hN
    obtain ⟨de1, h1, h2⟩ := h a List.mem_cons_self acc (by omega)
    have hc := hG a
    have ih := vLoop_app (g := g) (tb := tb) em E G N c hG l (acc ++ G a) (by rw [List.length_append]; omega) fun x hx => h x (List.mem_cons_of_mem _ hx)
    rw [List.map_cons, List.flatMap_cons, ← List.append_assoc, ← ih]
    rcases h2 with h2 | h2
    · exact vLoop_nx h1 h2
    · exact vLoop_ct h1 h2
/-- a loop with an invariant over what is left, that does what a function says -/
theorem vLoop_foldI {g : D → DEnv → Option DEnv} {tb : DEnv → Ot} {α β : Type} (em : α → D) (E : β → DEnv) (f : β → α → β) (I : List α → β → Prop) : ∀ (l : List α) (b : β), I l b →
    (∀ a l b, I (a :: l) b → I l (f b a) ∧ ∃ de1, g (em a) (E b) = some de1 ∧ (tb de1 = .nx (E (f b a)) ∨ tb de1 = .ct (E (f b a)))) → vLoop g tb (l.map em) (E b) = .nx (E (l.foldl f b)) ∧ I [] (l.foldl f b)
  | [], b, hi, _ => ⟨rfl, hi⟩
  | a :: l, b, hi, h => by
    obtain ⟨h0, de1, h1, h2⟩ := h a l b hi
    obtain ⟨ih, i2⟩ := vLoop_foldI (g := g) (tb := tb) em E f I l (f b a) h0 h
    rw [List.map_cons, List.foldl_cons, ← ih]
    refine ⟨?_, i2⟩
    rcases h2 with h2 | h2
    · exact vLoop_nx h1 h2
    · exact vLoop_ct h1 h2
end DL
set_option maxRecDepth 100000
set_option maxHeartbeats 2000000
set_option autoImplicit false
/-! the plain side of while, ghosts, lambdas -/
namespace DL
open PySem L2
section
variable {de de1 : DEnv} {d d1 : D} {i g l j k n c h : Nat} {f f1 f2 h1 h2 : Str} {cl : List Nat} {ev : DEnv → Rs D} {ds dl a b caps dcs : List D} {ea : DEnv → Rs (List D)} {ec : DEnv → Rs (List CA)} {m : List D → Fo} {tab : Nat → Option (Nat × (List D → Fo))} {fs : List (Str × D)} {eb : DEnv → Ot} {o : Fo} {js : List Nat} {s : Sl}
@[simp] theorem pg1 : vGApp i cl f g ev de = if atSelf cl f de[i]? de[g]? = true then (ev de).bind fun d de1 => gApp g f d de1 de1[g]? else .bad := Eq.trans rfl rfl
@[simp] theorem pg2 : gApp g f d de (some (.fl (.lst ds) f1)) = if f1 = f ∧ ds.length < 16777216 ∧ noKid g de = true then .ok .non (de.set g (.fl (.lst (ds ++ [d])) f)) else .bad := Eq.trans rfl rfl
@[simp] theorem pg3 : atSelf cl f (some (.cn (.obj c fs))) (some (.fl (.lst ds) f1)) = (cl.contains c && decide (f1 = f)) := Eq.trans rfl rfl
@[simp] theorem pg4 : isNo (some .no) = true := Eq.trans rfl rfl
@[simp] theorem pg5 : vGNew i cl f g l ev de = if atSelf cl f de[i]? de[g]? = true then (ev de).bind fun d de1 => (match closeKid g l de1 with
    | some de2 => gNew g l f d de2 de2[g]?
    | none => .bad) else .bad := Eq.trans rfl rfl
@[simp] theorem pg6 : gNew g l f d de (some (.fl (.lst ds) f1)) = if f1 = f ∧ ds.length < 16777216 ∧ noKid g de = true ∧ isNo de[l]? = true ∧ l ≠ g ∧ isLst d = true then .ok .non ((de.set g (.fl (.lst (ds ++ [.any])) f)).set l (.ll d g)) else .bad := Eq.trans rfl rfl
@[simp] theorem pg7 : vGLast i cl f g l j de = if atSelf cl f de[i]? de[g]? = true ∧ kidAt g de[l]? = true then (match vaAt de[j]? with
    | some d => gLast g l f d de de[l]? de[g]?
    | none => .bad) else .bad := Eq.trans rfl rfl
@[simp] theorem pg8 : gLast g l f d de (some (.ll (.lst ds) h)) (some (.fl d1 f1)) = if h = g ∧ f1 = f ∧ ds.length < 16777216 ∧ noKid l de = true then .ok .non (de.set l (.ll (.lst (ds ++ [d])) g)) else .bad := Eq.trans rfl rfl
@[simp] theorem pg9 : kidAt g (some (.ll (.lst ds) h)) = decide (h = g) := Eq.trans rfl rfl
@[simp] theorem pg10 : vaAt (some (.va d)) = some d := Eq.trans rfl rfl
@[simp] theorem pg11 {g1 g2 : Nat} : vBlk i cl f1 f2 g1 g2 l eb de = blkRun i cl f1 f2 g1 g2 l eb de de[i]? := Eq.trans rfl rfl
@[simp] theorem pg12 {g1 g2 : Nat} : blkRun i cl f1 f2 g1 g2 l eb de (some (.pn (.obj c fs))) = if cl.contains c = true ∧ fs.length < 900 ∧ calmD de = true ∧ isNo de[g1]? = true ∧ isNo de[g2]? = true ∧ g1 ≠ g2 ∧ i ≠ g1 ∧ i ≠ g2 then blkOut i f1 f2 g1 g2 l c fs (eb (blkIn i f1 f2 g1 g2 c fs de)) else .bad := Eq.trans rfl rfl
@[simp] theorem pg13 {g1 g2 : Nat} : blkOut i f1 f2 g1 g2 l c fs (.nx de) = (match closeKid g2 l de with
    | some de2 => blkEnd i f1 f2 c fs de2 de2[g1]? de2[g2]?
    | none => .bad) := Eq.trans rfl rfl
@[simp] theorem pg14 : blkEnd i f1 f2 c fs de (some (.fl (.lst a) h1)) (some (.fl (.lst b) h2)) = if h1 = f1 ∧ h2 = f2 ∧ isCn c de[i]? = true ∧ plDs a = true ∧ plDs b = true then .nx ((List.replicate de.length .no).set i (.pn (.obj c (putD f2 (.lst b) (putD f1 (.lst a) fs))))) else .bad := Eq.trans rfl rfl
@[simp] theorem pg15 : isCn c (some (.cn (.obj k fs))) = (k == c) := Eq.trans rfl rfl
@[simp] theorem pg16 : wCallLam n m dcs j js ec de = (ec de).bind fun cs de1 => callLam n m dcs j de1 (argD none cs de1) (lamCap de1 js) := Eq.trans rfl rfl
@[simp] theorem pg17 : callLam n m dcs j de (some ds) (some caps) = if (ds.length + 1) + dcs.length = n then lamRet de (m ((.fn j caps :: ds) ++ dcs)) else .bad := Eq.trans rfl rfl
@[simp] theorem pg18 : lamRet de (.ret d none) = if nfD d = true then .ok d de else .bad := Eq.trans rfl rfl
@[simp] theorem pg19 : lamRet de (.retF d none) = if nfD d = true then .ok d de else .bad := Eq.trans rfl rfl
@[simp] theorem pg20 : lamCap de [] = some [] := Eq.trans rfl rfl
@[simp] theorem pg21 : lamCap de (j :: js) = (vaAt de[j]?).bind fun d => (lamCap de js).map (d :: ·) := Eq.trans rfl rfl
@[simp] theorem pg22 : vCallV i tab ea de = if fnAtD de[i]? = true then (ea de).bind fun ds de1 => callV tab ds de1 de1[i]? else .bad := Eq.trans rfl rfl
@[simp] theorem pg23 : fnAtD (some (.va (.fn j caps))) = true := Eq.trans rfl rfl
@[simp] theorem pg24 : callV tab ds de (some (.va (.fn j caps))) = (match tab j with
    | some (n, m) => if ds.length = n ∧ nfDs ds = true ∧ nfDs caps = true then lamRetV de (m (ds ++ caps)) else .bad
    | none => .bad) := Eq.trans rfl rfl
@[simp] theorem pg25 : lamRetV de (.ret d none) = if nfD d = true then .ok d de else .bad := Eq.trans rfl rfl
end
end DL
set_option maxRecDepth 100000
set_option maxHeartbeats 2000000
set_option autoImplicit false
/-! the head by kernel runs, one for each part of what is looked at; for a top with makers of lambdas too -/
namespace Lw
open PySem PySem.W PySem.Calls PyProof.Rows HeadRun
theorem map_two {α β γ : Type} {x : Option α} {f : α → β × γ} {g : β × γ} (h1 : x.map (fun a => (f a).1) = some g.1) (h2 : x.map (fun a => (f a).2) = some g.2) : x.map f = some g := by
  cases x with
  | none => cases h1
  | some a => exact congrArg some (Prod.ext (Option.some.inj h1) (Option.some.inj h2))
noncomputable abbrev WF (p : Program) (N : Nat) (w : World) : Option (Shared × SharedT) := wholeF (fun p => stepQ (denQ tabQ) p w) fenceQ N p
theorem left_imp3 {p q : Program} {loose : List Str} {Xt : Shared → Bool} {α : Type} {Yf : Shared → α} {Ya : World → α} {N : Nat}
    (h1 : ∀ w : World, (WF p N w).map (fun x => looksF p x.1.heap x.2.abs) = some true)
    (h2 : ∀ w : World, (WF p N w).map (fun x => seenQ q loose (importedModules p.main.body) Xt x.2.abs) = some (openGood q loose))
    (h3 : ∀ w : World, (WF p N w).map (fun x => Yf x.2.abs) = some (Ya w)) : LeftO p q loose Xt Yf Ya N true :=
  left_imp fun w => by
    rw [wholeQ_eq]
    simp only [seenQ_eq]
    exact map_two (f := fun x : Shared × SharedT => (looksF p x.1.heap x.2.abs, seenQ q loose (importedModules p.main.body) Xt x.2.abs, Yf x.2.abs)) (g := (true, openGood q loose, Ya w)) (h1 w) (map_two (h2 w) (h3 w))
theorem obs_k {p : Program} {K : Params → Frag} {as : List Addr} {ek : ∀ P, as = (K P).map (·.1)} {N : Nat}
    (h : ∀ w : World, (WF p N w).map (fun x => as.map (getT x.2)) = some ((K w.params).map fun x => some x.2)) (w : World) :
    (WF p N w).map (fun x => Hook.obs (kHook K as ek) x.2.abs) = some (Hook.val (kHook K as ek) w) := by
  have eo : (fun x : Shared × SharedT => as.map (getT x.2)) = fun x => Hook.obs (kHook K as ek) x.2.abs := by
    funext x
    exact List.map_congr_left fun a _ => getT_eq x.2 a
  rw [← eo]
  exact h w
/-- a law's head: the run's parts, the view q of the top, the names that it does not hold, the walk -/
theorem head_all {r : OpenRow} {q : Program} {H : Hook} {loose : List Str} {N : Nat} {d : DefRec} {kwd : List (Str × PySem.Expr)}
    (h1 : ∀ w : World, (WF r.prog N w).map (fun x => looksF r.prog x.1.heap x.2.abs) = some true)
    (h2 : ∀ w : World, (WF r.prog N w).map (fun x => seenQ q loose (importedModules r.prog.main.body) (fun s => xlAt q [] s && recOk r.toRowW.records s) x.2.abs) = some (openGood q loose))
    (h3 : ∀ w : World, (WF r.prog N w).map (fun x => H.obs x.2.abs) = some (H.val w))
    (hdef : defOf q r.name = some (d, kwd)) (hp : r.prog.theDef r.name = some (d.params, d.body, d.scope)) (hk : kwWritten? d.params.kwonlyargs d.params.kw_defaults = some kwd)
    (hwr : (!r.writes || r.records.isEmpty) = true) (k1 : r.wellSaid = true) (ok : (chainsOk q && opensWell r.prog && (frees r.toRowW && r.within.isEmpty)) = true) (hb : r.prog.bare) (hw : r.toRowW.promised)
    (call : WalkO q loose (XL q []) H.says r.toRowW d kwd fun f vs => PySem.call f vs) : r.Holds :=
  holds_open (r := r) (q := q) (loose := loose) (XP := XL q []) (YP := H.says) (d := d) (kwd := kwd) (left_imp3 h1 h2 h3) H.of H.keeps (fun s z => xl_of s (Bool.and_eq_true_iff.mp z).1) XL.keeps hdef hp hk (fun s z => recFacts_of (Bool.and_eq_true_iff.mp z).2) hwr k1 ok hb hw call
end Lw
set_option maxRecDepth 100000
set_option maxHeartbeats 8000000
set_option autoImplicit false
namespace Lw
open PySem L2 DL
abbrev pgm : Program := PySem.Challenge.pw_labelgaps_k88_plan_faults
def top (i : Nat) : Stmt := pgm.main.body.getD i (.Pass ⟨0, 0, 0, 0⟩)
abbrev s__law_state : Stmt := (top 44)
abbrev s__law_draw : Stmt := (top 45)
abbrev s__law_values : Stmt := (top 46)
abbrev s_is_integer : Stmt := (top 11)
abbrev s_in_range : Stmt := (top 15)
abbrev s_Room_init : Stmt := (inClass (top 16) 0)
abbrev s__law_make : Stmt := (top 47)
abbrev s__law_deeds : Stmt := (top 55)
abbrev s__law_sizes : Stmt := (top 57)
abbrev s__law_rows : Stmt := (top 48)
abbrev s__law_keys : Stmt := (top 58)
abbrev s_need_room : Stmt := (top 17)
abbrev s_deed_fits : Stmt := (top 26)
abbrev s_bad_deed_from : Stmt := (top 28)
abbrev s_need_deeds : Stmt := (top 29)
abbrev s_count_standings : Stmt := (top 22)
abbrev s_need_few : Stmt := (top 23)
abbrev s_need_ahead : Stmt := (top 38)
abbrev s_sizes_of : Stmt := (top 35)
abbrev s_tuples_of : Stmt := (top 19)
abbrev s_standings : Stmt := (top 20)
abbrev s_move_price : Stmt := (top 21)
abbrev s_paid_for : Stmt := (top 30)
abbrev s_without : Stmt := (top 27)
abbrev s_after_all : Stmt := (top 36)
abbrev s_cost_table : Stmt := (top 37)
abbrev s_least_total : Stmt := (top 39)
abbrev s_plan_certificate : Stmt := (top 40)
abbrev s__law_spoil : Stmt := (top 60)
abbrev s__law_without : Stmt := (top 51)
abbrev s__law_after : Stmt := (top 53)
abbrev s__law_whole : Stmt := (top 52)
abbrev s__law_price : Stmt := (top 50)
abbrev s__law_paid : Stmt := (top 54)
abbrev s__law_due : Stmt := (top 59)
abbrev s__law_same : Stmt := (top 56)
abbrev s_need_dict : Stmt := (top 32)
abbrev s_key_fault : Stmt := (top 41)
abbrev s_plan_fault : Stmt := (top 42)
abbrev s_law : Stmt := (top 61)
abbrev s_BadRoom_init : Stmt := (inClass (top 3) 0)
abbrev s_NoRoom_init : Stmt := (inClass (top 4) 0)
abbrev s_NoSize_init : Stmt := (inClass (top 5) 0)
abbrev s_BadDeed_init : Stmt := (inClass (top 6) 0)
abbrev s_TooMany_init : Stmt := (inClass (top 7) 0)
abbrev s_NoLevel_init : Stmt := (inClass (top 8) 0)
abbrev s_NoHeights_init : Stmt := (inClass (top 9) 0)
def ar_Room_k0 (ds zs : List D) : List D := gpick [(0, 0), (0, 1), (2, 0), (2, 1)] ds [] zs
def e__law_state : DEnv → Ot :=
 vSeq (vSet 2 (vC (.int 0)))
  (vSeq (vIf (vB (vO2 fLt (.s 1) (.e (vON fLen [(.s 0)])))) (vSet 2 (vON fAbs [(.e (vO2 fIxN (.s 0) (.s 1)))])) (vSkip))
  (vRetF (vLst (vCons (vVar 2) (vCons (vO2 fAdd (.e (vO2 fMul (.e (vC (.int 977))) (.s 1))) (.e (vC (.int 5)))) (vNil))))))
def m__law_state (ds : List D) : Fo := run none 1 e__law_state ds
def e__law_draw : DEnv → Ot :=
 vSeq (vSet 2 (vO2 fIxN (.s 0) (.e (vC (.int 0)))))
  (vSeq (vSetIx 0 (vO2 fAdd (.e (vO2 fIxN (.s 0) (.e (vC (.int 1))))) (.e (vC (.int 1)))) (vC (.int 1)))
  (vSeq (vIf (vB (vO2 fGe (.s 2) (.e (vO2 fPow (.e (vC (.int 10))) (.e (vC (.int 18))))))) (vSeq (vSetIx 0 (vO2 fFdiv (.s 2) (.s 1)) (vC (.int 0)))
   (vRet (vO2 fMod (.e (vON fInt [(.s 2)])) (.s 1)))) (vSkip))
  (vSeq (vSet 3 (vO2 fMod (.e (vON fInt [(.e (vO2 fMul (.e (vO2 fAdd (.s 2) (.e (vO2 fMul (.e (vC (.int 7919))) (.e (vO2 fIxN (.s 0) (.e (vC (.int 1))))))))) (.e (vC (.int 48271)))))])) (.e (vC (.int 2147483647)))))
  (vSeq (vSet 3 (vO2 fMod (.e (vON fInt [(.e (vO2 fMul (.s 3) (.e (vO2 fAdd (.e (vO2 fFdiv (.s 3) (.e (vC (.int 1013))))) (.e (vC (.int 69623)))))))])) (.e (vC (.int 2147483629)))))
  (vSeq (vSet 3 (vO2 fMod (.e (vON fInt [(.e (vO2 fMul (.s 3) (.e (vO2 fAdd (.e (vO2 fFdiv (.s 3) (.e (vC (.int 2011))))) (.e (vC (.int 40693)))))))])) (.e (vC (.int 2147483399)))))
  (vRet (vO2 fMod (.e (vON fInt [(.e (vO2 fFdiv (.s 3) (.e (vC (.int 32)))))])) (.s 1))))))))
def m__law_draw (ds : List D) : Fo := run (some 0) 2 e__law_draw ds
def e__law_values : DEnv → Ot :=
 vSeq (vSet 2 (vLst (vCons (vTup (vCons (vC (.int 3)) (vCons (vC (.int 2)) (vNil)))) (vCons (vTup (vCons (vC (.int 4)) (vCons (vC (.int 2)) (vNil)))) (vCons (vTup (vCons (vC (.int 2)) (vCons (vC (.int 2)) (vNil)))) (vCons (vTup (vCons (vC (.int 3)) (vCons (vC (.int 3)) (vNil)))) (vCons (vTup (vCons (vC (.int 1)) (vCons (vC (.int 1)) (vNil)))) (vCons (vTup (vCons (vC (.int 4)) (vCons (vC (.int 3)) (vNil)))) (vCons (vTup (vCons (vC (.int 5)) (vCons (vC (.int 2)) (vNil)))) (vCons (vTup (vCons (vC (.int 3)) (vCons (vC (.int 1)) (vNil)))) (vCons (vTup (vCons (vC (.int 6)) (vCons (vC (.int 2)) (vNil)))) (vCons (vTup (vCons (vC (.int 4)) (vCons (vC (.int 4)) (vNil)))) (vCons (vTup (vCons (vC (.int 5)) (vCons (vC (.int 3)) (vNil)))) (vCons (vTup (vCons (vC (.int 7)) (vCons (vC (.int 2)) (vNil)))) (vCons (vTup (vCons (vC (.int 8)) (vCons (vC (.int 2)) (vNil)))) (vNil))))))))))))))))
  (vSeq (vSet 3 (vO2 fIxN (.s 2) (.e (wCall 2 (some 0) m__law_draw [] (cSlot 0 (cVal (vVar 1) (cNil)))))))
  (vSeq (vSet 4 (wCall 2 (some 0) m__law_draw [] (cSlot 0 (cVal (vC (.int 4)) (cNil)))))
  (vSeq (vSet 5 (wCall 2 (some 0) m__law_draw [] (cSlot 0 (cVal (vC (.int 4)) (cNil)))))
  (vSeq (vIf (vB (vO2 fEq (.e (vO2 fAdd (.s 4) (.s 5))) (.e (vC (.int 0))))) (vSet 4 (vC (.int 1))) (vSkip))
  (vRetF (vLst (vCons (vO2 fIxN (.s 3) (.e (vC (.int 0)))) (vCons (vO2 fIxN (.s 3) (.e (vC (.int 1)))) (vCons (vVar 4) (vCons (vVar 5) (vNil)))))))))))
def m__law_values (ds : List D) : Fo := run (some 0) 4 e__law_values ds
def e_is_integer : DEnv → Ot :=
 vRet (vAndV (vON (fIsi [25]) [(.s 0), (.e (vC (.cls (.b "int"))))]) (vNotV (vON (fIsi [25]) [(.s 0), (.e (vC (.cls (.b "bool"))))])))
def m_is_integer (ds : List D) : Fo := run none 0 e_is_integer ds
def e_in_range : DEnv → Ot :=
 vRet (vAndV (wCall 1 none m_is_integer [] (cVal (vVar 0) (cNil))) (vCh fLe fLe (.s 1) (.s 0) (.s 2)))
def m_in_range (ds : List D) : Fo := run none 0 e_in_range ds
def e_Room_init : DEnv → Ot :=
 vSeq (vIf (vNot (vTru (.e (wCall 3 none m_in_range [] (cVal (vVar 1) (cVal (vC (.int 1)) (cVal (vC (.int 8)) (cNil)))))))) (vRaise2 3 ("part" : Str) isStr (vC (.str ("labels" : Str)))) (vSkip))
  (vSeq (vIf (vNot (vTru (.e (wCall 3 none m_in_range [] (cVal (vVar 2) (cVal (vC (.int 1)) (cVal (vVar 1) (cNil)))))))) (vRaise2 3 ("part" : Str) isStr (vC (.str ("most" : Str)))) (vSkip))
  (vSeq (vIf (vNot (vTru (.e (wCall 3 none m_in_range [] (cVal (vVar 3) (cVal (vC (.int 0)) (cVal (vC (.int 3)) (cNil)))))))) (vRaise2 3 ("part" : Str) isStr (vC (.str ("change" : Str)))) (vSkip))
  (vSeq (vIf (vOr (vNot (vTru (.e (wCall 3 none m_in_range [] (cVal (vVar 4) (cVal (vC (.int 0)) (cVal (vC (.int 3)) (cNil)))))))) (vB (vO2 fEq (.e (vO2 fAdd (.s 3) (.s 4))) (.e (vC (.int 0)))))) (vRaise2 3 ("part" : Str) isStr (vC (.str ("step" : Str)))) (vSkip))
  (vSeq (vSetFld 0 [25] ("labels" : Str) (vVar 1))
  (vSeq (vSetFld 0 [25] ("most" : Str) (vVar 2))
  (vSeq (vSetFld 0 [25] ("change" : Str) (vVar 3))
  (vSetFld 0 [25] ("step" : Str) (vVar 4))))))))
def m_Room_init (ds : List D) : Fo := run (some 0) 0 e_Room_init ds
def e__law_make : DEnv → Ot :=
 vRetF (wMakeK 25 5 m_Room_init ar_Room_k0 (vCons (vO2 fIxN (.s 0) (.e (vC (.int 0)))) (vCons (vO2 fIxN (.s 0) (.e (vC (.int 1)))) (vNil))) (vCons (vO2 fIxN (.s 0) (.e (vC (.int 2)))) (vCons (vO2 fIxN (.s 0) (.e (vC (.int 3)))) (vNil))))
def m__law_make (ds : List D) : Fo := run none 0 e__law_make ds
def lb__law_deeds_1 : DEnv → Ot :=
 vPost [5] (vIf (vOr (vB (vO2 fEq (.s 3) (.e (vO2 fIxN (.s 1) (.e (vC (.int 1))))))) (vAnd (vB (vO2 fGt (.s 3) (.e (vC (.int 0))))) (vB (vO2 fEq (.e (wCall 2 (some 0) m__law_draw [] (cSlot 0 (cVal (vC (.int 3)) (cNil))))) (.e (vC (.int 0))))))) (vSeq (vExpr (vMut 4 gAppend (vCons (vTup (vCons (vC (.str ("out" : Str))) (vCons (wCall 2 (some 0) m__law_draw [] (cSlot 0 (cVal (vVar 3) (cNil)))) (vNil)))) (vNil))))
    (vSet 3 (vO2 fSub (.s 3) (.e (vC (.int 1)))))) (vSeq (vExpr (vMut 4 gAppend (vCons (vTup (vCons (vC (.str ("in" : Str))) (vCons (wCall 2 (some 0) m__law_draw [] (cSlot 0 (cVal (vO2 fAdd (.s 3) (.e (vC (.int 1)))) (cNil)))) (vNil)))) (vNil))))
    (vSet 3 (vO2 fAdd (.s 3) (.e (vC (.int 1)))))))
def e__law_deeds : DEnv → Ot :=
 vSeq (vSet 3 (vC (.int 0)))
  (vSeq (vSetF 4 (vLst (vNil)))
  (vSeq (vFor (vIdrop [2] (vRng1 (vVar 2))) (tName 5) lb__law_deeds_1)
  (vRetF (vMove 4))))
def m__law_deeds (ds : List D) : Fo := run (some 0) 3 e__law_deeds ds
def lb__law_sizes_1 : DEnv → Ot :=
 vPost [2] (vIf (vB (vO2 fEq (.e (vO2 fIxN (.s 2) (.e (vC (.int 0))))) (.e (vC (.str ("in" : Str)))))) (vExpr (vMut 1 gAppend (vCons (vO2 fAdd (.e (vO2 fIxN (.s 1) (.e (vO1 fNeg (.e (vC (.int 1))))))) (.e (vC (.int 1)))) (vNil)))) (vExpr (vMut 1 gAppend (vCons (vO2 fSub (.e (vO2 fIxN (.s 1) (.e (vO1 fNeg (.e (vC (.int 1))))))) (.e (vC (.int 1)))) (vNil)))))
def e__law_sizes : DEnv → Ot :=
 vSeq (vSetF 1 (vLst (vCons (vC (.int 0)) (vNil))))
  (vSeq (vFor (vIdrop [0] (vSeqN (vVar 0))) (tName 2) lb__law_sizes_1)
  (vRetF (vMove 1)))
def m__law_sizes (ds : List D) : Fo := run none 2 e__law_sizes ds
def lb__law_rows_1 : DEnv → Ot :=
 vPost [6] (vIf (vOr (vB (vO2 fEq (.s 5) (.e (vTup (vNil))))) (vB (vO2 fGt (.s 6) (.e (vO2 fIxN (.s 5) (.e (vO1 fNeg (.e (vC (.int 1)))))))))) (vExpr (vMut 4 gAppend (vCons (vO2 fAdd (.s 5) (.e (vTup (vCons (vVar 6) (vNil))))) (vNil)))) (vSkip))
def lb__law_rows_2 : DEnv → Ot :=
 vPost [5, 6] (vFor (vRng1 (vVar 0)) (tName 6) lb__law_rows_1)
def lb__law_rows_3 : DEnv → Ot :=
 vPost [3, 4, 5, 6] (vSeq (vSetF 4 (vLst (vNil)))
   (vSeq (vPre [3] (vFor (vIdrop [2] (vSeqN (vVar 2))) (tName 5) lb__law_rows_2))
   (vSet 2 (vVar 4))))
def e__law_rows : DEnv → Ot :=
 vSeq (vSet 2 (vLst (vCons (vTup (vNil)) (vNil))))
  (vSeq (vFor (vIdrop [1] (vRng1 (vVar 1))) (tName 3) lb__law_rows_3)
  (vRet (vVar 2)))
def m__law_rows (ds : List D) : Fo := run none 5 e__law_rows ds
def lb__law_keys_1 : DEnv → Ot :=
 vPost [4] (vExpr (vMut 2 gAppend (vCons (vTup (vCons (vVar 3) (vCons (vVar 4) (vNil)))) (vNil))))
def lb__law_keys_2 : DEnv → Ot :=
 vPost [3, 4] (vFor (vSeqN (wCall 2 none m__law_rows [] (cVal (vO2 fIxN (.s 0) (.e (vC (.int 0)))) (cVal (vO2 fIxN (.s 1) (.s 3)) (cNil))))) (tName 4) lb__law_keys_1)
def e__law_keys : DEnv → Ot :=
 vSeq (vSetF 2 (vLst (vNil)))
  (vSeq (vFor (vRng1 (vON fLen [(.s 1)])) (tName 3) lb__law_keys_2)
  (vRetF (vMove 2)))
def m__law_keys (ds : List D) : Fo := run none 3 e__law_keys ds
def e_need_room : DEnv → Ot :=
 vIf (vNot (vTru (.e (vON (fIsi [25]) [(.s 0), (.e (vC (.cls (.o 25))))])))) (vRaise2 4 ("thing" : Str) anyD (vVar 0)) (vSkip)
def m_need_room (ds : List D) : Fo := run none 0 e_need_room ds
def e_deed_fits : DEnv → Ot :=
 vSeq (vIf (vOr (vNot (vTru (.e (vON (fIsi [25]) [(.s 2), (.e (vC (.cls (.b "tuple"))))])))) (vOr (vB (vO2 fNe (.e (vON fLen [(.s 2)])) (.e (vC (.int 2))))) (vNot (vTru (.e (vON (fIsi [25]) [(.e (vO2 fIxN (.s 2) (.e (vC (.int 0))))), (.e (vC (.cls (.b "str"))))])))))) (vRet (vC (.bl false))) (vSkip))
  (vSeq (vIf (vB (vO2 fEq (.e (vO2 fIxN (.s 2) (.e (vC (.int 0))))) (.e (vC (.str ("in" : Str)))))) (vRet (vAndV (vO2 fLt (.s 1) (.e (vFld [25] ("most" : Str) (.s 0)))) (wCall 3 none m_in_range [] (cVal (vO2 fIxN (.s 2) (.e (vC (.int 1)))) (cVal (vC (.int 0)) (cVal (vVar 1) (cNil))))))) (vSkip))
  (vRet (vAndV (vO2 fEq (.e (vO2 fIxN (.s 2) (.e (vC (.int 0))))) (.e (vC (.str ("out" : Str))))) (wCall 3 none m_in_range [] (cVal (vO2 fIxN (.s 2) (.e (vC (.int 1)))) (cVal (vC (.int 0)) (cVal (vO2 fSub (.s 1) (.e (vC (.int 1)))) (cNil))))))))
def m_deed_fits (ds : List D) : Fo := run none 0 e_deed_fits ds
def lb_bad_deed_from_1 : DEnv → Ot :=
 vPost [4, 5] (vSeq (vIf (vNot (vTru (.e (wCall 3 none m_deed_fits [] (cVal (vVar 0) (cVal (vVar 1) (cVal (vVar 5) (cNil)))))))) (vRet (vVar 4)) (vSkip))
   (vAug 1 (fun i j => i + j) (vIfE (vB (vO2 fEq (.e (vO2 fIxN (.s 5) (.e (vC (.int 0))))) (.e (vC (.str ("in" : Str)))))) (vC (.int 1)) (vO1 fNeg (.e (vC (.int 1)))))))
def e_bad_deed_from : DEnv → Ot :=
 vSeq (vIf (vOr (vNot (vTru (.e (vON (fIsi [25]) [(.s 2), (.e (vC (.cls (.b "list"))))])))) (vB (vO2 fGt (.e (vON fLen [(.s 2)])) (.s 3)))) (vRet (vO1 fNeg (.e (vC (.int 1))))) (vSkip))
  (vSeq (vPre [3] (vFor (vIdrop [2] (vEnumS (vVar 2))) (tgTup 2 (tgCons (tName 4) (tgCons (tName 5) (tgNil)))) lb_bad_deed_from_1))
  (vRet (vC .non)))
def m_bad_deed_from (ds : List D) : Fo := run none 2 e_bad_deed_from ds
def e_need_deeds : DEnv → Ot :=
 vSeq (vSet 3 (wCall 4 none m_bad_deed_from [] (cVal (vVar 0) (cVal (vC (.int 0)) (cVal (vVar 1) (cVal (vVar 2) (cNil)))))))
  (vIf (vB (vO2 fNotN (.s 3) (.e (vC .non)))) (vRaise2 10 ("index" : Str) anyD (vVar 3)) (vSkip))
def m_need_deeds (ds : List D) : Fo := run none 1 e_need_deeds ds
def lb_count_standings_1 : DEnv → Ot :=
 vPost [3] (vSeq (vAug 1 (fun i j => i + j) (vVar 2))
   (vSet 2 (vO2 fFdiv (.e (vO2 fMul (.s 2) (.e (vO2 fSub (.e (vFld [25] ("labels" : Str) (.s 0))) (.s 3))))) (.e (vO2 fAdd (.s 3) (.e (vC (.int 1))))))))
def e_count_standings : DEnv → Ot :=
 vSeq (vSet 1 (vC (.int 0)))
  (vSeq (vSet 2 (vC (.int 1)))
  (vSeq (vFor (vRng1 (vO2 fAdd (.e (vFld [25] ("most" : Str) (.s 0))) (.e (vC (.int 1))))) (tName 3) lb_count_standings_1)
  (vRet (vVar 1))))
def m_count_standings (ds : List D) : Fo := run none 3 e_count_standings ds
def e_need_few : DEnv → Ot :=
 vIf (vB (vO2 fGt (.e (wCall 1 none m_count_standings [] (cVal (vVar 0) (cNil)))) (.s 1))) (vRaise2 15 ("limit" : Str) anyD (vVar 1)) (vSkip)
def m_need_few (ds : List D) : Fo := run none 0 e_need_few ds
def e_need_ahead : DEnv → Ot :=
 vSeq (vExpr (wCall 1 none m_need_room [] (cVal (vVar 0) (cNil))))
  (vSeq (vExpr (wCall 3 none m_need_deeds [] (cVal (vVar 0) (cVal (vVar 1) (cVal (vC (.int 300)) (cNil))))))
  (vExpr (wCall 2 none m_need_few [.int 60] (cVal (vVar 0) (cNil)))))
def m_need_ahead (ds : List D) : Fo := run none 0 e_need_ahead ds
def lb_sizes_of_1 : DEnv → Ot :=
 vPost [2] (vExpr (vMut 1 gAppend (vCons (vO2 fAdd (.e (vO2 fIxN (.s 1) (.e (vO1 fNeg (.e (vC (.int 1))))))) (.e (vIfE (vB (vO2 fEq (.e (vO2 fIxN (.s 2) (.e (vC (.int 0))))) (.e (vC (.str ("in" : Str)))))) (vC (.int 1)) (vO1 fNeg (.e (vC (.int 1))))))) (vNil))))
def e_sizes_of : DEnv → Ot :=
 vSeq (vSetF 1 (vLst (vCons (vC (.int 0)) (vNil))))
  (vSeq (vFor (vIdrop [0] (vSeqN (vVar 0))) (tName 2) lb_sizes_of_1)
  (vRetF (vMove 1)))
def m_sizes_of (ds : List D) : Fo := run none 2 e_sizes_of ds
def lb_tuples_of_1 : DEnv → Ot :=
 vPost [6] (vIf (vOr (vNot (vTru (.s 5))) (vB (vO2 fGt (.s 6) (.e (vO2 fIxN (.s 5) (.e (vO1 fNeg (.e (vC (.int 1)))))))))) (vExpr (vMut 4 gAppend (vCons (vO2 fAdd (.s 5) (.e (vTup (vCons (vVar 6) (vNil))))) (vNil)))) (vSkip))
def lb_tuples_of_2 : DEnv → Ot :=
 vPost [5, 6] (vFor (vSeqN (vVar 0)) (tName 6) lb_tuples_of_1)
def lb_tuples_of_3 : DEnv → Ot :=
 vPost [3, 4, 5, 6] (vSeq (vSetF 4 (vLst (vNil)))
   (vSeq (vPre [3] (vFor (vIdrop [2] (vSeqN (vVar 2))) (tName 5) lb_tuples_of_2))
   (vSet 2 (vVar 4))))
def e_tuples_of : DEnv → Ot :=
 vSeq (vSet 2 (vLst (vCons (vTup (vNil)) (vNil))))
  (vSeq (vFor (vIdrop [1] (vRng1 (vVar 1))) (tName 3) lb_tuples_of_3)
  (vRet (vVar 2)))
def m_tuples_of (ds : List D) : Fo := run none 5 e_tuples_of ds
def lb_standings_1 : DEnv → Ot :=
 vPost [4] (vExpr (vMut 3 gExtend (vCons (wCall 2 none m_tuples_of [] (cVal (vVar 2) (cVal (vVar 4) (cNil)))) (vNil))))
def e_standings : DEnv → Ot :=
 vSeq (vExpr (wCall 1 none m_need_room [] (cVal (vVar 0) (cNil))))
  (vSeq (vSet 2 (vListRg (vR1 (vFld [25] ("labels" : Str) (.s 0)))))
  (vSeq (vIf (vB (vO2 fNotN (.s 1) (.e (vC .non)))) (vSeq (vIf (vNot (vTru (.e (wCall 3 none m_in_range [] (cVal (vVar 1) (cVal (vC (.int 0)) (cVal (vFld [25] ("most" : Str) (.s 0)) (cNil)))))))) (vRaise2 5 ("size" : Str) anyD (vVar 1)) (vSkip))
   (vRet (wCall 2 none m_tuples_of [] (cVal (vVar 2) (cVal (vVar 1) (cNil)))))) (vSkip))
  (vSeq (vSetF 3 (vLst (vNil)))
  (vSeq (vPre [1] (vFor (vIdrop [0] (vRng1 (vO2 fAdd (.e (vFld [25] ("most" : Str) (.s 0))) (.e (vC (.int 1)))))) (tName 4) lb_standings_1))
  (vRetF (vMove 3))))))
def m_standings (ds : List D) : Fo := run none 3 e_standings ds
def lb_move_price_1 : DEnv → Ot :=
 vPost [5, 6, 7] (vSeq (vSet 7 (vIfE (vB (vO2 fLt (.s 5) (.s 2))) (vO2 fIxN (.s 3) (.s 5)) (vO2 fIxN (.s 3) (.e (vO2 fAdd (.s 5) (.e (vC (.int 1))))))))
   (vIf (vB (vO2 fNe (.s 7) (.s 6))) (vAug 4 (fun i j => i + j) (vO2 fAdd (.e (vFld [25] ("change" : Str) (.s 0))) (.e (vO2 fMul (.e (vFld [25] ("step" : Str) (.s 0))) (.e (vON fAbs [(.e (vO2 fSub (.s 7) (.s 6)))])))))) (vSkip)))
def e_move_price : DEnv → Ot :=
 vSeq (vSet 4 (vC (.int 0)))
  (vSeq (vFor (vIdrop [1] (vEnumS (vVar 1))) (tgTup 2 (tgCons (tName 5) (tgCons (tName 6) (tgNil)))) lb_move_price_1)
  (vRet (vVar 4)))
def m_move_price (ds : List D) : Fo := run none 4 e_move_price ds
def e_paid_for : DEnv → Ot :=
 vSeq (vIf (vB (vO2 fEq (.e (vO2 fIxN (.s 2) (.e (vC (.int 0))))) (.e (vC (.str ("out" : Str)))))) (vRet (vC (.int 0))) (vSkip))
  (vRet (wCall 4 none m_move_price [] (cVal (vVar 0) (cVal (vVar 1) (cVal (vO2 fIxN (.s 2) (.e (vC (.int 1)))) (cVal (vVar 3) (cNil)))))))
def m_paid_for (ds : List D) : Fo := run none 0 e_paid_for ds
def e_without : DEnv → Ot :=
 vRet (vO2 fAdd (.e (vSl fSlA (.s 0) vNoP (vPart (vVar 1)))) (.e (vSl fSlA (.s 0) (vPart (vO2 fAdd (.s 1) (.e (vC (.int 1))))) vNoP)))
def m_without (ds : List D) : Fo := run none 0 e_without ds
def e_after_all : DEnv → Ot :=
 vSeq (vIf (vB (vO2 fEq (.e (vO2 fIxN (.s 2) (.e (vC (.int 0))))) (.e (vC (.str ("out" : Str)))))) (vRetF (vLst (vCons (wCall 2 none m_without [] (cVal (vVar 1) (cVal (vO2 fIxN (.s 2) (.e (vC (.int 1)))) (cNil)))) (vNil)))) (vSkip))
  (vRet (wCall 2 none m_standings [] (cVal (vVar 0) (cVal (vO2 fAdd (.e (vON fLen [(.s 1)])) (.e (vC (.int 1)))) (cNil)))))
def m_after_all (ds : List D) : Fo := run none 0 e_after_all ds
def lb_cost_table_1 : DEnv → Ot :=
 vPost [4, 7] (vSeq (vSet 7 (vLc [8] (vSeqN (wCall 3 none m_after_all [] (cVal (vVar 0) (cVal (vVar 4) (cVal (vVar 6) (cNil)))))) (tName 8) (vYes) (vO2 fAdd (.e (wCall 4 none m_paid_for [] (cVal (vVar 0) (cVal (vVar 4) (cVal (vVar 6) (cVal (vVar 8) (cNil))))))) (.e (vO2 fIxN (.s 3) (.e (vTup (vCons (vO2 fAdd (.s 5) (.e (vC (.int 1)))) (vCons (vVar 8) (vNil))))))))))
    (vSetN 3 (vON fMin [(.e (vLc [9] (vSeqN (vVar 7)) (tName 9) (vYes) (vON fInt [(.s 9)])))]) (vTup (vCons (vVar 5) (vCons (vVar 4) (vNil))))))
def lb_cost_table_2 : DEnv → Ot :=
 vPost [4, 5, 6, 7] (vSeq (vSet 6 (vO2 fIxN (.s 1) (.s 5)))
   (vFor (vSeqN (wCall 2 none m_standings [] (cVal (vVar 0) (cVal (vO2 fIxN (.s 2) (.s 5)) (cNil))))) (tName 4) lb_cost_table_1))
def e_cost_table : DEnv → Ot :=
 vSeq (vSet 2 (wCall 1 none m_sizes_of [] (cVal (vVar 1) (cNil))))
  (vSeq (vSetF 3 (vDc [4] (vSeqN (wCall 2 none m_standings [] (cVal (vVar 0) (cVal (vO2 fIxN (.s 2) (.e (vO1 fNeg (.e (vC (.int 1)))))) (cNil))))) (tName 4) (vYes) (vTup (vCons (vON fLen [(.s 1)]) (vCons (vVar 4) (vNil)))) (vC (.int 0))))
  (vSeq (vPre [4] (vFor (vRevR (vON fLen [(.s 1)])) (tName 5) lb_cost_table_2))
  (vRetF (vMove 3))))
def m_cost_table (ds : List D) : Fo := run none 8 e_cost_table ds
def e_least_total : DEnv → Ot :=
 vSeq (vExpr (wCall 2 none m_need_ahead [] (cVal (vVar 0) (cVal (vVar 1) (cNil)))))
  (vRet (vO2 fIxN (.e (wCall 2 none m_cost_table [] (cVal (vVar 0) (cVal (vVar 1) (cNil))))) (.e (vTup (vCons (vC (.int 0)) (vCons (vTup (vNil)) (vNil)))))))
def m_least_total (ds : List D) : Fo := run none 0 e_least_total ds
def e_plan_certificate : DEnv → Ot :=
 vSeq (vExpr (wCall 2 none m_need_ahead [] (cVal (vVar 0) (cVal (vVar 1) (cNil)))))
  (vRetF (wCallF 2 none m_cost_table [] (cVal (vVar 0) (cVal (vVar 1) (cNil)))))
def m_plan_certificate (ds : List D) : Fo := run none 0 e_plan_certificate ds
def lb__law_spoil_1 : DEnv → Ot :=
 vPost [9, 10, 11] (vSeq (vSet 10 (vVar 9))
   (vSeq (vIf (vTru (.s 4)) (vSet 10 (vO2 fSub (.e (vO2 fSub (.e (vON fLen [(.s 1)])) (.e (vC (.int 1))))) (.s 9))) (vSkip))
   (vSeq (vSet 11 (vO2 fIxN (.s 2) (.e (vO2 fIxN (.s 1) (.s 10)))))
   (vSeq (vIf (vAnd (vB (vO2 fInN (.s 10) (.s 7))) (vB (vO2 fLt (.s 5) (.e (vC (.int 3)))))) (vSet 11 (vO2 fAdd (.s 11) (.s 8))) (vSkip))
   (vSeq (vIf (vAnd (vB (vO2 fEq (.s 10) (.s 6))) (vB (vO2 fEq (.s 5) (.e (vC (.int 1)))))) (vSet 11 (vO2 fIxN (.e (vLst (vCons (vC .non) (vCons (vC (.bl true)) (vCons (vC (.str ("1" : Str))) (vCons (vTup (vCons (vC (.int 0)) (vNil))) (vCons (vLst (vCons (vC (.int 0)) (vNil))) (vCons (vC (.bl false)) (vNil))))))))) (.e (wCall 2 (some 0) m__law_draw [] (cSlot 0 (cVal (vC (.int 6)) (cNil))))))) (vSkip))
   (vIf (vOr (vB (vO2 fNe (.s 10) (.s 6))) (vB (vO2 fNe (.s 5) (.e (vC (.int 2)))))) (vSetN 3 (vVar 11) (vO2 fIxN (.s 1) (.s 10))) (vSkip)))))))
def e__law_spoil : DEnv → Ot :=
 vSeq (vSetF 3 (vC (.dn [])))
  (vSeq (vSet 4 (vO2 fEq (.e (wCall 2 (some 0) m__law_draw [] (cSlot 0 (cVal (vC (.int 2)) (cNil))))) (.e (vC (.int 1)))))
  (vSeq (vSet 5 (wCall 2 (some 0) m__law_draw [] (cSlot 0 (cVal (vC (.int 5)) (cNil)))))
  (vSeq (vSet 6 (wCall 2 (some 0) m__law_draw [] (cSlot 0 (cVal (vON fLen [(.s 1)]) (cNil)))))
  (vSeq (vSet 7 (vLst (vCons (wCall 2 (some 0) m__law_draw [] (cSlot 0 (cVal (vON fLen [(.s 1)]) (cNil)))) (vCons (wCall 2 (some 0) m__law_draw [] (cSlot 0 (cVal (vON fLen [(.s 1)]) (cNil)))) (vNil)))))
  (vSeq (vSet 8 (vO2 fSub (.e (wCall 2 (some 0) m__law_draw [] (cSlot 0 (cVal (vC (.int 7)) (cNil))))) (.e (vC (.int 3)))))
  (vSeq (vFor (vRng1 (vON fLen [(.s 1)])) (tName 9) lb__law_spoil_1)
  (vSeq (vIf (vB (vO2 fEq (.s 5) (.e (vC (.int 4))))) (vSetN 3 (vC .non) (vTup (vCons (vC (.int 0)) (vCons (vTup (vCons (vC (.int 0)) (vNil))) (vNil))))) (vSkip))
  (vRetF (vMove 3)))))))))
def m__law_spoil (ds : List D) : Fo := run (some 0) 9 e__law_spoil ds
def e__law_without : DEnv → Ot :=
 vRet (vO2 fAdd (.e (vSl fSlA (.s 0) vNoP (vPart (vVar 1)))) (.e (vSl fSlA (.s 0) (vPart (vO2 fAdd (.s 1) (.e (vC (.int 1))))) vNoP)))
def m__law_without (ds : List D) : Fo := run none 0 e__law_without ds
def e__law_after : DEnv → Ot :=
 vSeq (vIf (vB (vO2 fEq (.e (vO2 fIxN (.s 2) (.e (vC (.int 0))))) (.e (vC (.str ("out" : Str)))))) (vRetF (vLst (vCons (wCall 2 none m__law_without [] (cVal (vVar 1) (cVal (vO2 fIxN (.s 2) (.e (vC (.int 1)))) (cNil)))) (vNil)))) (vSkip))
  (vRet (wCall 2 none m__law_rows [] (cVal (vO2 fIxN (.s 0) (.e (vC (.int 0)))) (cVal (vO2 fAdd (.e (vON fLen [(.s 1)])) (.e (vC (.int 1)))) (cNil)))))
def m__law_after (ds : List D) : Fo := run none 0 e__law_after ds
def e__law_whole : DEnv → Ot :=
 vRet (vAndV (vON (fIsi [25]) [(.s 0), (.e (vC (.cls (.b "int"))))]) (vNotV (vON (fIsi [25]) [(.s 0), (.e (vC (.cls (.b "bool"))))])))
def m__law_whole (ds : List D) : Fo := run none 0 e__law_whole ds
def lb__law_price_1 : DEnv → Ot :=
 vPost [5, 6] (vSeq (vSet 6 (vO2 fIxN (.s 3) (.e (vO2 fAdd (.s 5) (.e (vON fInt [(.e (vO2 fGe (.s 5) (.s 2)))]))))))
   (vIf (vB (vO2 fNe (.s 6) (.e (vO2 fIxN (.s 1) (.s 5))))) (vSet 4 (vO2 fAdd (.e (vO2 fAdd (.s 4) (.e (vO2 fIxN (.s 0) (.e (vC (.int 2))))))) (.e (vO2 fMul (.e (vO2 fIxN (.s 0) (.e (vC (.int 3))))) (.e (vON fAbs [(.e (vO2 fSub (.s 6) (.e (vO2 fIxN (.s 1) (.s 5)))))])))))) (vSkip)))
def e__law_price : DEnv → Ot :=
 vSeq (vSet 4 (vC (.int 0)))
  (vSeq (vFor (vRng1 (vON fLen [(.s 1)])) (tName 5) lb__law_price_1)
  (vRet (vVar 4)))
def m__law_price (ds : List D) : Fo := run none 3 e__law_price ds
def e__law_paid : DEnv → Ot :=
 vSeq (vIf (vB (vO2 fEq (.e (vO2 fIxN (.s 2) (.e (vC (.int 0))))) (.e (vC (.str ("out" : Str)))))) (vRet (vC (.int 0))) (vSkip))
  (vRet (wCall 4 none m__law_price [] (cVal (vVar 0) (cVal (vVar 1) (cVal (vO2 fIxN (.s 2) (.e (vC (.int 1)))) (cVal (vVar 3) (cNil)))))))
def m__law_paid (ds : List D) : Fo := run none 0 e__law_paid ds
def lb__law_due_1 : DEnv → Ot :=
 vPost [5] (vIf (vOr (vB (vO2 fNotInN (.s 5) (.s 4))) (vNot (vTru (.e (wCall 1 none m__law_whole [] (cVal (vO2 fIxN (.s 4) (.s 5)) (cNil))))))) (vRet (vTup (vCons (vC (.str ("lacks" : Str))) (vCons (vO2 fIxN (.s 5) (.e (vC (.int 0)))) (vCons (vO2 fIxN (.s 5) (.e (vC (.int 1)))) (vNil)))))) (vSkip))
def lb__law_due_2 : DEnv → Ot :=
 vPost [6] (vIf (vB (vO2 fGt (.e (vO2 fIxN (.s 4) (.e (vTup (vCons (vON fLen [(.s 1)]) (vCons (vVar 6) (vNil))))))) (.e (vC (.int 0))))) (vRet (vTup (vCons (vC (.str ("end" : Str))) (vCons (vVar 6) (vNil))))) (vSkip))
def lb__law_due_3 : DEnv → Ot :=
 vPost [8] (vIf (vB (vO2 fGt (.e (vO2 fIxN (.s 4) (.e (vTup (vCons (vVar 7) (vCons (vVar 6) (vNil))))))) (.e (vO2 fAdd (.e (wCall 4 none m__law_paid [] (cVal (vVar 0) (cVal (vVar 6) (cVal (vO2 fIxN (.s 1) (.s 7)) (cVal (vVar 8) (cNil))))))) (.e (vO2 fIxN (.s 4) (.e (vTup (vCons (vO2 fAdd (.s 7) (.e (vC (.int 1)))) (vCons (vVar 8) (vNil))))))))))) (vRet (vTup (vCons (vC (.str ("deed" : Str))) (vCons (vVar 7) (vCons (vVar 6) (vCons (vVar 8) (vNil))))))) (vSkip))
def lb__law_due_4 : DEnv → Ot :=
 vPost [6, 8] (vFor (vSeqN (wCall 3 none m__law_after [] (cVal (vVar 0) (cVal (vVar 6) (cVal (vO2 fIxN (.s 1) (.s 7)) (cNil)))))) (tName 8) lb__law_due_3)
def lb__law_due_5 : DEnv → Ot :=
 vPost [6, 7, 8] (vFor (vSeqN (wCall 2 none m__law_rows [] (cVal (vO2 fIxN (.s 0) (.e (vC (.int 0)))) (cVal (vO2 fIxN (.s 2) (.s 7)) (cNil))))) (tName 6) lb__law_due_4)
def e__law_due : DEnv → Ot :=
 vSeq (vFor (vSeqN (wCall 2 none m__law_keys [] (cVal (vVar 0) (cVal (vVar 2) (cNil))))) (tName 5) lb__law_due_1)
  (vSeq (vFor (vSeqN (wCall 2 none m__law_rows [] (cVal (vO2 fIxN (.s 0) (.e (vC (.int 0)))) (cVal (vO2 fIxN (.s 2) (.e (vO1 fNeg (.e (vC (.int 1)))))) (cNil))))) (tName 6) lb__law_due_2)
  (vSeq (vFor (vRng1 (vON fLen [(.s 1)])) (tName 7) lb__law_due_5)
  (vSeq (vIf (vB (vO2 fGt (.s 3) (.e (vO2 fIxN (.s 4) (.e (vTup (vCons (vC (.int 0)) (vCons (vTup (vNil)) (vNil))))))))) (vRet (vTup (vCons (vC (.str ("start" : Str))) (vNil)))) (vSkip))
  (vRet (vC .non)))))
def m__law_due (ds : List D) : Fo := run none 4 e__law_due ds
def e__law_same : DEnv → Ot :=
 vSeq (vIf (vB (vO2 fIsN (.s 1) (.e (vC .non)))) (vRet (vO2 fIsN (.s 0) (.e (vC .non)))) (vSkip))
  (vRet (vAndV (vON (fIsi [25]) [(.s 0), (.e (vC (.cls (.b "tuple"))))]) (vO2 fEq (.s 0) (.s 1))))
def m__law_same (ds : List D) : Fo := run none 0 e__law_same ds
def e_need_dict : DEnv → Ot :=
 vIf (vNot (vTru (.e (vON (fIsi [25]) [(.s 0), (.e (vC (.cls (.b "dict"))))])))) (vRaise2 22 ("thing" : Str) anyD (vVar 0)) (vSkip)
def m_need_dict (ds : List D) : Fo := run none 0 e_need_dict ds
def lb_key_fault_1 : DEnv → Ot :=
 vPost [6] (vIf (vOr (vB (vO2 fNotInN (.e (vTup (vCons (vVar 4) (vCons (vVar 6) (vNil))))) (.s 2))) (vNot (vTru (.e (wCall 1 none m_is_integer [] (cVal (vO2 fIxN (.s 2) (.e (vTup (vCons (vVar 4) (vCons (vVar 6) (vNil)))))) (cNil))))))) (vRet (vTup (vCons (vC (.str ("lacks" : Str))) (vCons (vVar 4) (vCons (vVar 6) (vNil)))))) (vSkip))
def lb_key_fault_2 : DEnv → Ot :=
 vPost [4, 5, 6] (vFor (vIdrop [5] (vSeqN (wCall 2 none m_standings [] (cVal (vVar 0) (cVal (vVar 5) (cNil)))))) (tName 6) lb_key_fault_1)
def lb_key_fault_3 : DEnv → Ot :=
 vPost [6] (vIf (vB (vO2 fGt (.e (vO2 fIxN (.s 2) (.e (vTup (vCons (vON fLen [(.s 1)]) (vCons (vVar 6) (vNil))))))) (.e (vC (.int 0))))) (vRet (vTup (vCons (vC (.str ("end" : Str))) (vCons (vVar 6) (vNil))))) (vSkip))
def e_key_fault : DEnv → Ot :=
 vSeq (vSet 3 (wCall 1 none m_sizes_of [] (cVal (vVar 1) (cNil))))
  (vSeq (vFor (vEnumS (vVar 3)) (tgTup 2 (tgCons (tName 4) (tgCons (tName 5) (tgNil)))) lb_key_fault_2)
  (vSeq (vFor (vIdrop [0, 3] (vSeqN (wCall 2 none m_standings [] (cVal (vVar 0) (cVal (vO2 fIxN (.s 3) (.e (vO1 fNeg (.e (vC (.int 1)))))) (cNil)))))) (tName 6) lb_key_fault_3)
  (vRet (vC .non))))
def m_key_fault (ds : List D) : Fo := run none 4 e_key_fault ds
def lb_plan_fault_1 : DEnv → Ot :=
 vPost [9] (vIf (vB (vO2 fGt (.e (vO2 fIxN (.s 3) (.e (vTup (vCons (vVar 6) (vCons (vVar 8) (vNil))))))) (.e (vO2 fAdd (.e (wCall 4 none m_paid_for [] (cVal (vVar 0) (cVal (vVar 8) (cVal (vVar 7) (cVal (vVar 9) (cNil))))))) (.e (vO2 fIxN (.s 3) (.e (vTup (vCons (vO2 fAdd (.s 6) (.e (vC (.int 1)))) (vCons (vVar 9) (vNil))))))))))) (vRet (vTup (vCons (vC (.str ("deed" : Str))) (vCons (vVar 6) (vCons (vVar 8) (vCons (vVar 9) (vNil))))))) (vSkip))
def lb_plan_fault_2 : DEnv → Ot :=
 vPost [8, 9] (vFor (vSeqN (wCall 3 none m_after_all [] (cVal (vVar 0) (cVal (vVar 8) (cVal (vVar 7) (cNil)))))) (tName 9) lb_plan_fault_1)
def lb_plan_fault_3 : DEnv → Ot :=
 vPost [6, 7, 8, 9] (vFor (vSeqN (wCall 2 none m_standings [] (cVal (vVar 0) (cVal (vO2 fIxN (.s 5) (.s 6)) (cNil))))) (tName 8) lb_plan_fault_2)
def e_plan_fault : DEnv → Ot :=
 vSeq (vExpr (wCall 1 none m_need_room [] (cVal (vVar 0) (cNil))))
  (vSeq (vExpr (wCall 3 none m_need_deeds [] (cVal (vVar 0) (cVal (vVar 1) (cVal (vC (.int 300)) (cNil))))))
  (vSeq (vIf (vNot (vTru (.e (wCall 1 none m_is_integer [] (cVal (vVar 2) (cNil)))))) (vRaise2 21 ("thing" : Str) anyD (vVar 2)) (vSkip))
  (vSeq (vExpr (wCall 1 none m_need_dict [] (cVal (vVar 3) (cNil))))
  (vSeq (vExpr (wCall 2 none m_need_few [.int 60] (cVal (vVar 0) (cNil))))
  (vSeq (vSet 4 (wCall 3 none m_key_fault [] (cVal (vVar 0) (cVal (vVar 1) (cVal (vVar 3) (cNil))))))
  (vSeq (vIf (vB (vO2 fNotN (.s 4) (.e (vC .non)))) (vRet (vVar 4)) (vSkip))
  (vSeq (vSet 5 (wCall 1 none m_sizes_of [] (cVal (vVar 1) (cNil))))
  (vSeq (vPre [4] (vFor (vIdrop [1] (vEnumS (vVar 1))) (tgTup 2 (tgCons (tName 6) (tgCons (tName 7) (tgNil)))) lb_plan_fault_3))
  (vSeq (vIf (vB (vO2 fGt (.s 2) (.e (vO2 fIxN (.s 3) (.e (vTup (vCons (vC (.int 0)) (vCons (vTup (vNil)) (vNil))))))))) (vRet (vTup (vCons (vC (.str ("start" : Str))) (vNil)))) (vSkip))
  (vRet (vC .non)))))))))))
def m_plan_fault (ds : List D) : Fo := run none 6 e_plan_fault ds
def lb_law_1 : DEnv → Ot :=
 vPost [13] (vSeq (vSetN 12 (vO2 fIxN (.s 10) (.s 13)) (vVar 13))
    (vIf (vTru (.s 11)) (vSetN 12 (vO2 fSub (.e (vO2 fMul (.e (vO2 fSub (.e (vON fLen [(.s 5)])) (.e (vO2 fIxN (.s 13) (.e (vC (.int 0))))))) (.e (wCall 2 (some 0) m__law_draw [] (cSlot 2 (cVal (vC (.int 2)) (cNil))))))) (.e (vO2 fFdiv (.e (wCall 2 (some 0) m__law_draw [] (cSlot 2 (cVal (vC (.int 3)) (cNil))))) (.e (vC (.int 2)))))) (vVar 13)) (vSkip)))
def tl_law_17 : DEnv → Ot :=
 vIf (vOr (vNot (vTru (.e (wCall 2 none m__law_same [] (cVal (wCall 4 none m_plan_fault [] (cVal (vVar 4) (cVal (vON fList [(.s 5)]) (cVal (vVar 9) (cVal (vVar 15) (cNil)))))) (cVal (vVar 14) (cNil))))))) (vB (vO2 fNe (.e (vON fLenN [(.s 15)])) (.e (vON fLenN [(.s 12)]))))) (vRet (vC (.bl false))) (vSkip)
def tl_law_16 : DEnv → Ot :=
 vSeq (vSet 15 (vON fDictN [(.s 12)]))
   (tl_law_17)
def tl_law_15 : DEnv → Ot :=
 vSeq (vIf (vAnd (vB (vO2 fIsN (.s 14) (.e (vC .non)))) (vB (vO2 fGt (.s 9) (.s 8)))) (vRet (vC (.bl false))) (vSkip))
   (tl_law_16)
def tl_law_14 : DEnv → Ot :=
 vSeq (vSet 14 (wCall 5 none m__law_due [] (cVal (vVar 3) (cVal (vVar 5) (cVal (vVar 6) (cVal (vVar 9) (cVal (vVar 12) (cNil))))))))
   (tl_law_15)
def tl_law_13 : DEnv → Ot :=
 vSeq (vSetF 12 (wCallF 3 (some 0) m__law_spoil [] (cSlot 2 (cVal (vVar 7) (cVal (vVar 12) (cNil))))))
   (tl_law_14)
def tl_law_12 : DEnv → Ot :=
 vSeq (vPre [1] (vFor (vSeqN (vVar 7)) (tName 13) lb_law_1))
   (tl_law_13)
def tl_law_11 : DEnv → Ot :=
 vSeq (vSetF 12 (vC (.dn [])))
   (tl_law_12)
def tl_law_10 : DEnv → Ot :=
 vSeq (vSet 11 (vO2 fEq (.e (wCall 2 (some 0) m__law_draw [] (cSlot 2 (cVal (vC (.int 3)) (cNil))))) (.e (vC (.int 0)))))
   (tl_law_11)
def tl_law_9 : DEnv → Ot :=
 vSeq (vSet 10 (wCall 2 none m_plan_certificate [] (cVal (vVar 4) (cVal (vON fList [(.s 5)]) (cNil)))))
   (tl_law_10)
def tl_law_8 : DEnv → Ot :=
 vSeq (vSet 9 (vO2 fAdd (.s 8) (.e (vO2 fIxN (.e (vLst (vCons (vC (.int 0)) (vCons (vC (.int 0)) (vCons (vC (.int 1)) (vCons (vO1 fNeg (.e (vC (.int 1)))) (vCons (vC (.int 3)) (vCons (vO1 fNeg (.e (vC (.int 3)))) (vNil))))))))) (.e (wCall 2 (some 0) m__law_draw [] (cSlot 2 (cVal (vC (.int 6)) (cNil)))))))))
   (tl_law_9)
def tl_law_7 : DEnv → Ot :=
 vSeq (vSet 8 (wCall 2 none m_least_total [] (cVal (vVar 4) (cVal (vON fList [(.s 5)]) (cNil)))))
   (tl_law_8)
def tl_law_6 : DEnv → Ot :=
 vSeq (vSet 7 (wCall 2 none m__law_keys [] (cVal (vVar 3) (cVal (vVar 6) (cNil)))))
   (tl_law_7)
def tl_law_5 : DEnv → Ot :=
 vSeq (vSet 6 (wCall 1 none m__law_sizes [] (cVal (vVar 5) (cNil))))
   (tl_law_6)
def tl_law_4 : DEnv → Ot :=
 vSeq (vSet 5 (wCall 3 (some 0) m__law_deeds [] (cSlot 2 (cVal (vVar 3) (cVal (wCall 2 (some 0) m__law_draw [] (cSlot 2 (cVal (vC (.int 9)) (cNil)))) (cNil))))))
   (tl_law_5)
def tl_law_3 : DEnv → Ot :=
 vSeq (vSet 4 (wCall 1 none m__law_make [] (cVal (vVar 3) (cNil))))
   (tl_law_4)
def tl_law_2 : DEnv → Ot :=
 vSeq (vSet 3 (wCall 2 (some 0) m__law_values [] (cSlot 2 (cVal (vC (.int 8)) (cNil)))))
   (tl_law_3)
def lb_law_2 : DEnv → Ot :=
 vPost [1, 2, 3, 4, 5, 6, 7, 8, 9, 10, 11, 12, 13, 14, 15] (vSeq (vSetF 2 (wCallF 2 none m__law_state [] (cVal (vVar 0) (cVal (vVar 1) (cNil)))))
   (tl_law_2))
def e_law : DEnv → Ot :=
 vSeq (vFor (vRng1 (vO2 fAdd (.e (vC (.int 1))) (.e (vON fLen [(.e (vSl fSlA (.s 0) vNoP (vPart (vC (.int 3)))))])))) (tName 1) lb_law_2)
  (vRet (vC (.bl true)))
def m_law (ds : List D) : Fo := run none 15 e_law ds
@[simp] theorem lit_0 : PySem.PyData.canLay0 (.str ("labels" : Str)) = true := by decide +kernel
@[simp] theorem lis_0 : isStr (.str ("labels" : Str)) = true := by decide +kernel
@[simp] theorem lit_1 : PySem.PyData.canLay0 (.str ("most" : Str)) = true := by decide +kernel
@[simp] theorem lis_1 : isStr (.str ("most" : Str)) = true := by decide +kernel
@[simp] theorem lit_2 : PySem.PyData.canLay0 (.str ("change" : Str)) = true := by decide +kernel
@[simp] theorem lis_2 : isStr (.str ("change" : Str)) = true := by decide +kernel
@[simp] theorem lit_3 : PySem.PyData.canLay0 (.str ("step" : Str)) = true := by decide +kernel
@[simp] theorem lis_3 : isStr (.str ("step" : Str)) = true := by decide +kernel
@[simp] theorem lit_4 : PySem.PyData.canLay0 (.str ("out" : Str)) = true := by decide +kernel
@[simp] theorem lis_4 : isStr (.str ("out" : Str)) = true := by decide +kernel
@[simp] theorem lit_5 : PySem.PyData.canLay0 (.str ("in" : Str)) = true := by decide +kernel
@[simp] theorem lis_5 : isStr (.str ("in" : Str)) = true := by decide +kernel
@[simp] theorem lit_6 : PySem.PyData.canLay0 (.str ("1" : Str)) = true := by decide +kernel
@[simp] theorem lis_6 : isStr (.str ("1" : Str)) = true := by decide +kernel
@[simp] theorem lit_7 : PySem.PyData.canLay0 (.str ("start" : Str)) = true := by decide +kernel
@[simp] theorem lis_7 : isStr (.str ("start" : Str)) = true := by decide +kernel
@[simp] theorem lit_8 : PySem.PyData.canLay0 (.str ("lacks" : Str)) = true := by decide +kernel
@[simp] theorem lis_8 : isStr (.str ("lacks" : Str)) = true := by decide +kernel
@[simp] theorem lit_9 : PySem.PyData.canLay0 (.str ("end" : Str)) = true := by decide +kernel
@[simp] theorem lis_9 : isStr (.str ("end" : Str)) = true := by decide +kernel
@[simp] theorem lit_10 : PySem.PyData.canLay0 (.str ("deed" : Str)) = true := by decide +kernel
@[simp] theorem lis_10 : isStr (.str ("deed" : Str)) = true := by decide +kernel
section
variable {P : Program} {w : World} {K : PySem.W.Frag} {mg : Str → Option Value} {base : Heap} {kap : Kp}
theorem sc__law_state : FnScope [("_law_script" : Str), ("_law_k" : Str), ("_law_cell" : Str)] [("_law_script" : Str), ("_law_k" : Str)] (defScope s__law_state) := ⟨rfl, rfl, rfl, by decide +kernel, rfl, by decide +kernel, by decide +kernel⟩
theorem ok__law_state {f : Addr} {fd : FuncData} (F : Fun K ("_law_state" : Str) ("_law_state" : Str) s__law_state f fd) (n_len : mg ("len" : Str) = none) (n_abs : mg ("abs" : Str) = none) :
  FnG P w K mg base (L2.CX P w) 1 f fd [("_law_script" : Str), ("_law_k" : Str)] (spD K kap 2 none m__law_state) :=
  DL.Fun.dl F (N := [("_law_script" : Str), ("_law_k" : Str), ("_law_cell" : Str)]) (n := 2) (nl := 1) (e := e__law_state) sc__law_state rfl rfl fun cdv A outer s H E hr tk po => ⟨_, (jssCons (jSet 2 sc__law_state.nd jInt)
  (jssCons (jIf (jBc op_lt (spI fun _ _ _ => .bl _) (jSlot 1) (JE.o (jCB call_lenA sp_len n_len bt_len (josCons (jSlot 0) josNil)))) (jssOne (jSet 2 sc__law_state.nd (jCB call_abs sp_abs n_abs bt_abs (josCons (JE.o (jItemN (uu hr) (jSlot 0) (jSlot 1))) josNil)))) jssNil)
  (jssOne (jRetF (jLst (jaCons (jVar 2) (jaCons (jAdd (JE.o (jMul (JE.o jInt) (jSlot 1))) (JE.o jInt)) jaNil)))))))⟩
theorem sc__law_draw : FnScope [("_law_state_here" : Str), ("_law_many" : Str), ("_law_number" : Str), ("_law_one" : Str)] [("_law_state_here" : Str), ("_law_many" : Str)] (defScope s__law_draw) := ⟨rfl, rfl, rfl, by decide +kernel, rfl, by decide +kernel, by decide +kernel⟩
theorem ok__law_draw {f : Addr} {fd : FuncData} (F : Fun K ("_law_draw" : Str) ("_law_draw" : Str) s__law_draw f fd) (n_int : mg ("int" : Str) = none) :
  FnG P w K mg base (L2.CX P w) 1 f fd [("_law_state_here" : Str), ("_law_many" : Str)] (spD K kap 2 (some 0) m__law_draw) :=
  DL.Fun.dl F (N := [("_law_state_here" : Str), ("_law_many" : Str), ("_law_number" : Str), ("_law_one" : Str)]) (n := 2) (nl := 2) (e := e__law_draw) sc__law_draw rfl rfl fun cdv A outer s H E hr tk po => ⟨_, (jssCons (jSet 2 sc__law_draw.nd (jItemN (uu hr) (jSlot 0) (JE.o jInt)))
  (jssCons (jSetIx 0 (jAdd (JE.o (jItemN (uu hr) (jSlot 0) (JE.o jInt))) (JE.o jInt)) jInt)
  (jssCons (jIf (jBc op_ge (spI fun _ _ _ => .bl _) (jSlot 2) (JE.o (jPow (JE.o jInt) (JE.o jInt)))) (jssCons (jSetIx 0 (jFdiv (jSlot 2) (jSlot 1)) jInt)
   (jssOne (jRet (jMod (JE.o (jCT call_int1 sp_int n_int bt_int (josCons (jSlot 2) josNil))) (jSlot 1))))) jssNil)
  (jssCons (jSet 3 sc__law_draw.nd (jMod (JE.o (jCT call_int1 sp_int n_int bt_int (josCons (JE.o (jMul (JE.o (jAdd (jSlot 2) (JE.o (jMul (JE.o jInt) (JE.o (jItemN (uu hr) (jSlot 0) (JE.o jInt))))))) (JE.o jInt))) josNil))) (JE.o jInt)))
  (jssCons (jSet 3 sc__law_draw.nd (jMod (JE.o (jCT call_int1 sp_int n_int bt_int (josCons (JE.o (jMul (jSlot 3) (JE.o (jAdd (JE.o (jFdiv (jSlot 3) (JE.o jInt))) (JE.o jInt))))) josNil))) (JE.o jInt)))
  (jssCons (jSet 3 sc__law_draw.nd (jMod (JE.o (jCT call_int1 sp_int n_int bt_int (josCons (JE.o (jMul (jSlot 3) (JE.o (jAdd (JE.o (jFdiv (jSlot 3) (JE.o jInt))) (JE.o jInt))))) josNil))) (JE.o jInt)))
  (jssOne (jRet (jMod (JE.o (jCT call_int1 sp_int n_int bt_int (josCons (JE.o (jFdiv (jSlot 3) (JE.o jInt))) josNil))) (jSlot 1))))))))))⟩
theorem sc__law_values : FnScope [("_law_state_here" : Str), ("_law_many" : Str), ("_law_sizes_here" : Str), ("_law_pair" : Str), ("_law_fixed" : Str), ("_law_slope" : Str)] [("_law_state_here" : Str), ("_law_many" : Str)] (defScope s__law_values) := ⟨rfl, rfl, rfl, by decide +kernel, rfl, by decide +kernel, by decide +kernel⟩
theorem ok__law_values {f : Addr} {fd : FuncData} (F : Fun K ("_law_values" : Str) ("_law_values" : Str) s__law_values f fd) (g__law_draw : GF P w K mg base kap ("_law_draw" : Str) 1 2 (some 0) m__law_draw []) :
  FnG P w K mg base (L2.CX P w) 2 f fd [("_law_state_here" : Str), ("_law_many" : Str)] (spD K kap 2 (some 0) m__law_values) :=
  DL.Fun.dl F (N := [("_law_state_here" : Str), ("_law_many" : Str), ("_law_sizes_here" : Str), ("_law_pair" : Str), ("_law_fixed" : Str), ("_law_slope" : Str)]) (n := 2) (nl := 4) (e := e__law_values) sc__law_values rfl rfl fun cdv A outer s H E hr tk po => ⟨_, (jssCons (jSet 2 sc__law_values.nd (JF.fz (jLst (jaCons (jTup (jaCons jInt (jaCons jInt jaNil))) (jaCons (jTup (jaCons jInt (jaCons jInt jaNil))) (jaCons (jTup (jaCons jInt (jaCons jInt jaNil))) (jaCons (jTup (jaCons jInt (jaCons jInt jaNil))) (jaCons (jTup (jaCons jInt (jaCons jInt jaNil))) (jaCons (jTup (jaCons jInt (jaCons jInt jaNil))) (jaCons (jTup (jaCons jInt (jaCons jInt jaNil))) (jaCons (jTup (jaCons jInt (jaCons jInt jaNil))) (jaCons (jTup (jaCons jInt (jaCons jInt jaNil))) (jaCons (jTup (jaCons jInt (jaCons jInt jaNil))) (jaCons (jTup (jaCons jInt (jaCons jInt jaNil))) (jaCons (jTup (jaCons jInt (jaCons jInt jaNil))) (jaCons (jTup (jaCons jInt (jaCons jInt jaNil))) jaNil))))))))))))))))
  (jssCons (jSet 3 sc__law_values.nd (jItemN (uu hr) (jSlot 2) (JE.o (gCall g__law_draw (hr.mono (by decide)) tk (jcSlot 0 (jcVal (jVar 1) jcNil))))))
  (jssCons (jSet 4 sc__law_values.nd (gCall g__law_draw (hr.mono (by decide)) tk (jcSlot 0 (jcVal jInt jcNil))))
  (jssCons (jSet 5 sc__law_values.nd (gCall g__law_draw (hr.mono (by decide)) tk (jcSlot 0 (jcVal jInt jcNil))))
  (jssCons (jIf (jBc (op_eqD (uu hr)) sp_eq (JE.o (jAdd (jSlot 4) (jSlot 5))) (JE.o jInt)) (jssOne (jSet 4 sc__law_values.nd jInt)) jssNil)
  (jssOne (jRetF (jLst (jaCons (jItemN (uu hr) (jSlot 3) (JE.o jInt)) (jaCons (jItemN (uu hr) (jSlot 3) (JE.o jInt)) (jaCons (jVar 4) (jaCons (jVar 5) jaNil))))))))))))⟩
theorem sc_is_integer : FnScope [("thing" : Str)] [("thing" : Str)] (defScope s_is_integer) := ⟨rfl, rfl, rfl, by decide +kernel, rfl, by decide +kernel, by decide +kernel⟩
theorem ok_is_integer {f : Addr} {fd : FuncData} (F : Fun K ("is_integer" : Str) ("is_integer" : Str) s_is_integer f fd) (kk : KitK K kap [25]) (n_int : mg ("int" : Str) = none) (n_isinstance : mg ("isinstance" : Str) = none) (n_bool : mg ("bool" : Str) = none) :
  FnG P w K mg base (L2.CX P w) 1 f fd [("thing" : Str)] (spD K kap 1 none m_is_integer) :=
  DL.Fun.dl F (N := [("thing" : Str)]) (n := 1) (nl := 0) (e := e_is_integer) sc_is_integer rfl rfl fun cdv A outer s H E hr tk po => ⟨_, (jssOne (jRet (jAndV (jCB call_isiA (sp_isi kk) n_isinstance bt_isinstance (josCons (jSlot 0) (josCons (JE.o (jTy n_int bt_int)) josNil))) (jOneV (jNotV (jCB call_isiA (sp_isi kk) n_isinstance bt_isinstance (josCons (jSlot 0) (josCons (JE.o (jTy n_bool bt_bool)) josNil))))))))⟩
theorem sc_in_range : FnScope [("value" : Str), ("low" : Str), ("high" : Str)] [("value" : Str), ("low" : Str), ("high" : Str)] (defScope s_in_range) := ⟨rfl, rfl, rfl, by decide +kernel, rfl, by decide +kernel, by decide +kernel⟩
theorem ok_in_range {f : Addr} {fd : FuncData} (F : Fun K ("in_range" : Str) ("in_range" : Str) s_in_range f fd) (g_is_integer : GF P w K mg base kap ("is_integer" : Str) 1 1 none m_is_integer []) :
  FnG P w K mg base (L2.CX P w) 2 f fd [("value" : Str), ("low" : Str), ("high" : Str)] (spD K kap 3 none m_in_range) :=
  DL.Fun.dl F (N := [("value" : Str), ("low" : Str), ("high" : Str)]) (n := 3) (nl := 0) (e := e_in_range) sc_in_range rfl rfl fun cdv A outer s H E hr tk po => ⟨_, (jssOne (jRet (jAndV (gCall g_is_integer (hr.mono (by decide)) tk (jcVal (jVar 0) jcNil)) (jOneV (jCh op_le op_le (spI fun _ _ _ => .bl _) (spI fun _ _ _ => .bl _) (jSlot 1) (jSlot 0) (jSlot 2))))))⟩
theorem sc_Room_init : FnScope [("self" : Str), ("labels" : Str), ("most" : Str), ("change" : Str), ("step" : Str)] [("self" : Str), ("labels" : Str), ("most" : Str), ("change" : Str), ("step" : Str)] (defScope s_Room_init) := ⟨rfl, rfl, rfl, by decide +kernel, rfl, by decide +kernel, by decide +kernel⟩
theorem ok_Room_init {f : Addr} {fd : FuncData} (F : FunD K ("__init__" : Str) ("Room.__init__" : Str) (defArgs s_Room_init) (defBody s_Room_init) (defScope s_Room_init) [] [(("change" : Str), .int 1), (("step" : Str), .int 0)] f fd) {u_MOST_LABELS : Tok} {u_MOST_PRICE : Tok} (g_in_range : GF P w K mg base kap ("in_range" : Str) 2 3 none m_in_range []) (v_MOST_LABELS : mg ("MOST_LABELS" : Str) = some (.int 8 u_MOST_LABELS)) (x_BadRoom : GX2 P w K mg kap ("BadRoom" : Str) 3 ("part" : Str) okStr) (v_MOST_PRICE : mg ("MOST_PRICE" : Str) = some (.int 3 u_MOST_PRICE)) (a_Room_labels : Cls K (kap 25) ∧ NoAttr K (kap 25) ("labels" : Str)) (a_Room_most : Cls K (kap 25) ∧ NoAttr K (kap 25) ("most" : Str)) (a_Room_change : Cls K (kap 25) ∧ NoAttr K (kap 25) ("change" : Str)) (a_Room_step : Cls K (kap 25) ∧ NoAttr K (kap 25) ("step" : Str)) :
  FnG P w K mg base (L2.CX P w) 3 f fd [("self" : Str), ("labels" : Str), ("most" : Str), ("change" : Str), ("step" : Str)] (spD K kap 5 (some 0) m_Room_init) :=
  DL.FunD.dl F (N := [("self" : Str), ("labels" : Str), ("most" : Str), ("change" : Str), ("step" : Str)]) (n := 5) (nl := 0) (e := e_Room_init) sc_Room_init rfl rfl fun cdv A outer s H E hr tk po => ⟨_, (jssCons (jIf (jtNot (jTru (JE.o (gCall g_in_range (hr.mono (by decide)) tk (jcVal (jVar 1) (jcVal jInt (jcVal (jGlobI v_MOST_LABELS) jcNil))))))) (jssOne (gRaise2 x_BadRoom ok_str (hr.mono (by decide)) tk jStr)) jssNil)
  (jssCons (jIf (jtNot (jTru (JE.o (gCall g_in_range (hr.mono (by decide)) tk (jcVal (jVar 2) (jcVal jInt (jcVal (jVar 1) jcNil))))))) (jssOne (gRaise2 x_BadRoom ok_str (hr.mono (by decide)) tk jStr)) jssNil)
  (jssCons (jIf (jtNot (jTru (JE.o (gCall g_in_range (hr.mono (by decide)) tk (jcVal (jVar 3) (jcVal jInt (jcVal (jGlobI v_MOST_PRICE) jcNil))))))) (jssOne (gRaise2 x_BadRoom ok_str (hr.mono (by decide)) tk jStr)) jssNil)
  (jssCons (jIf (JW.pt (jwOr (jtNot (jTru (JE.o (gCall g_in_range (hr.mono (by decide)) tk (jcVal (jVar 4) (jcVal jInt (jcVal (jGlobI v_MOST_PRICE) jcNil))))))) (jwOr1 (jBc (op_eqD (uu hr)) sp_eq (JE.o (jAdd (jSlot 3) (jSlot 4))) (JE.o jInt))))) (jssOne (gRaise2 x_BadRoom ok_str (hr.mono (by decide)) tk jStr)) jssNil)
  (jssCons (jSetFld 0 [25] (more_in a_Room_labels none_in) (jVar 1))
  (jssCons (jSetFld 0 [25] (more_in a_Room_most none_in) (jVar 2))
  (jssCons (jSetFld 0 [25] (more_in a_Room_change none_in) (jVar 3))
  (jssOne (jSetFld 0 [25] (more_in a_Room_step none_in) (jVar 4))))))))))⟩
theorem sc__law_make : FnScope [("_law_values_here" : Str)] [("_law_values_here" : Str)] (defScope s__law_make) := ⟨rfl, rfl, rfl, by decide +kernel, rfl, by decide +kernel, by decide +kernel⟩
theorem ok__law_make {f : Addr} {fd : FuncData} (F : Fun K ("_law_make" : Str) ("_law_make" : Str) s__law_make f fd) (mk_Room_k0 : GK P w K mg base kap ("Room" : Str) 25 3 5 2 [("change" : Str), ("step" : Str)] m_Room_init ar_Room_k0) :
  FnG P w K mg base (L2.CX P w) 5 f fd [("_law_values_here" : Str)] (spD K kap 1 none m__law_make) :=
  DL.Fun.dl F (N := [("_law_values_here" : Str)]) (n := 1) (nl := 0) (e := e__law_make) sc__law_make rfl rfl fun cdv A outer s H E hr tk po => ⟨_, (jssOne (jRetF (gMakeK mk_Room_k0 (hr.mono (by decide)) tk (jaCons (jItemN (uu hr) (jSlot 0) (JE.o jInt)) (jaCons (jItemN (uu hr) (jSlot 0) (JE.o jInt)) jaNil)) (jkCons (jItemN (uu hr) (jSlot 0) (JE.o jInt)) (jkCons (jItemN (uu hr) (jSlot 0) (JE.o jInt)) jkNil)) (vcons_len (vcons_len vnil_len)) (vcons_len (vcons_len vnil_len)))))⟩
theorem sc__law_deeds : FnScope [("_law_state_here" : Str), ("_law_values_here" : Str), ("_law_many" : Str), ("_law_size" : Str), ("_law_deeds_here" : Str), ("_law_k" : Str)] [("_law_state_here" : Str), ("_law_values_here" : Str), ("_law_many" : Str)] (defScope s__law_deeds) := ⟨rfl, rfl, rfl, by decide +kernel, rfl, by decide +kernel, by decide +kernel⟩
theorem ok__law_deeds {f : Addr} {fd : FuncData} (F : Fun K ("_law_deeds" : Str) ("_law_deeds" : Str) s__law_deeds f fd) (n_range : mg ("range" : Str) = none) (g__law_draw : GF P w K mg base kap ("_law_draw" : Str) 1 2 (some 0) m__law_draw []) :
  FnG P w K mg base (L2.CX P w) 2 f fd [("_law_state_here" : Str), ("_law_values_here" : Str), ("_law_many" : Str)] (spD K kap 3 (some 0) m__law_deeds) :=
  DL.Fun.dl F (N := [("_law_state_here" : Str), ("_law_values_here" : Str), ("_law_many" : Str), ("_law_size" : Str), ("_law_deeds_here" : Str), ("_law_k" : Str)]) (n := 3) (nl := 3) (e := e__law_deeds) sc__law_deeds rfl rfl fun cdv A outer s H E hr tk po => ⟨_, (jssCons (jSet 3 sc__law_deeds.nd jInt)
  (jssCons (jSetF 4 sc__law_deeds.nd (jLst jaNil))
  (jssCons (jFor po (jiDrop [2] (jiRng1 n_range (jVar 2))) (jgName 5 sc__law_deeds.nd) (jssPost [5] (jssOne (jIf (JW.pt (jwOr (jBc (op_eqD (uu hr)) sp_eq (jSlot 3) (JE.o (jItemN (uu hr) (jSlot 1) (JE.o jInt)))) (jwOr1 (JW.pt (jwAnd (jBc op_gt (spI fun _ _ _ => .bl _) (jSlot 3) (JE.o jInt)) (jwAnd1 (jBc (op_eqD (uu hr)) sp_eq (JE.o (gCall g__law_draw (hr.mono (by decide)) tk (jcSlot 0 (jcVal jInt jcNil)))) (JE.o jInt)))))))) (jssCons (jExpr (jLm PySem.F.slot_list_append PySem.F.type_list_append mt_append spm_append.two 4 (jaCons (jTup (jaCons jStr (jaCons (gCall g__law_draw (hr.mono (by decide)) tk (jcSlot 0 (jcVal (jVar 3) jcNil))) jaNil))) jaNil)))
    (jssOne (jSet 3 sc__law_deeds.nd (jSub (jSlot 3) (JE.o jInt))))) (jssCons (jExpr (jLm PySem.F.slot_list_append PySem.F.type_list_append mt_append spm_append.two 4 (jaCons (jTup (jaCons jStr (jaCons (gCall g__law_draw (hr.mono (by decide)) tk (jcSlot 0 (jcVal (jAdd (jSlot 3) (JE.o jInt)) jcNil))) jaNil))) jaNil)))
    (jssOne (jSet 3 sc__law_deeds.nd (jAdd (jSlot 3) (JE.o jInt)))))))))
  (jssOne (jRetF (jMove 4))))))⟩
theorem sc__law_sizes : FnScope [("_law_deeds_here" : Str), ("_law_sizes_here" : Str), ("_law_deed" : Str)] [("_law_deeds_here" : Str)] (defScope s__law_sizes) := ⟨rfl, rfl, rfl, by decide +kernel, rfl, by decide +kernel, by decide +kernel⟩
theorem ok__law_sizes {f : Addr} {fd : FuncData} (F : Fun K ("_law_sizes" : Str) ("_law_sizes" : Str) s__law_sizes f fd)  :
  FnG P w K mg base (L2.CX P w) 1 f fd [("_law_deeds_here" : Str)] (spD K kap 1 none m__law_sizes) :=
  DL.Fun.dl F (N := [("_law_deeds_here" : Str), ("_law_sizes_here" : Str), ("_law_deed" : Str)]) (n := 1) (nl := 2) (e := e__law_sizes) sc__law_sizes rfl rfl fun cdv A outer s H E hr tk po => ⟨_, (jssCons (jSetF 1 sc__law_sizes.nd (jLst (jaCons jInt jaNil)))
  (jssCons (jFor po (jiDrop [0] (jiSeqN (jVar 0))) (jgName 2 sc__law_sizes.nd) (jssPost [2] (jssOne (jIf (jBc (op_eqD (uu hr)) sp_eq (JE.o (jItemN (uu hr) (jSlot 2) (JE.o jInt))) (JE.o jStr)) (jssOne (jExpr (jLm PySem.F.slot_list_append PySem.F.type_list_append mt_append spm_append.two 1 (jaCons (jAdd (JE.o (jItemN (uu hr) (jSlot 1) (JE.o (jNeg (JE.o jInt))))) (JE.o jInt)) jaNil)))) (jssOne (jExpr (jLm PySem.F.slot_list_append PySem.F.type_list_append mt_append spm_append.two 1 (jaCons (jSub (JE.o (jItemN (uu hr) (jSlot 1) (JE.o (jNeg (JE.o jInt))))) (JE.o jInt)) jaNil))))))))
  (jssOne (jRetF (jMove 1)))))⟩
theorem sc__law_rows : FnScope [("_law_wide" : Str), ("_law_size" : Str), ("_law_rows_here" : Str), ("_law_k" : Str), ("_law_longer" : Str), ("_law_row" : Str), ("_law_label" : Str)] [("_law_wide" : Str), ("_law_size" : Str)] (defScope s__law_rows) := ⟨rfl, rfl, rfl, by decide +kernel, rfl, by decide +kernel, by decide +kernel⟩
theorem ok__law_rows {f : Addr} {fd : FuncData} (F : Fun K ("_law_rows" : Str) ("_law_rows" : Str) s__law_rows f fd) (n_range : mg ("range" : Str) = none) :
  FnG P w K mg base (L2.CX P w) 1 f fd [("_law_wide" : Str), ("_law_size" : Str)] (spD K kap 2 none m__law_rows) :=
  DL.Fun.dl F (N := [("_law_wide" : Str), ("_law_size" : Str), ("_law_rows_here" : Str), ("_law_k" : Str), ("_law_longer" : Str), ("_law_row" : Str), ("_law_label" : Str)]) (n := 2) (nl := 5) (e := e__law_rows) sc__law_rows rfl rfl fun cdv A outer s H E hr tk po => ⟨_, (jssCons (jSet 2 sc__law_rows.nd (JF.fz (jLst (jaCons (jTup jaNil) jaNil))))
  (jssCons (jFor po (jiDrop [1] (jiRng1 n_range (jVar 1))) (jgName 3 sc__law_rows.nd) (jssPost [3, 4, 5, 6] (jssCons (jSetF 4 sc__law_rows.nd (jLst jaNil))
   (jssCons (jPre [3] (jFor po (jiDrop [2] (jiSeqN (jVar 2))) (jgName 5 sc__law_rows.nd) (jssPost [5, 6] (jssOne (jFor po (jiRng1 n_range (jVar 0)) (jgName 6 sc__law_rows.nd) (jssPost [6] (jssOne (jIf (JW.pt (jwOr (jBc (op_eqD (uu hr)) sp_eq (jSlot 5) (JE.o (jTup jaNil))) (jwOr1 (jBc op_gt (spI fun _ _ _ => .bl _) (jSlot 6) (JE.o (jItemN (uu hr) (jSlot 5) (JE.o (jNeg (JE.o jInt))))))))) (jssOne (jExpr (jLm PySem.F.slot_list_append PySem.F.type_list_append mt_append spm_append.two 4 (jaCons (jAdd (jSlot 5) (JE.o (jTup (jaCons (jVar 6) jaNil)))) jaNil)))) jssNil))))))))
   (jssOne (jSet 2 sc__law_rows.nd (jVar 4)))))))
  (jssOne (jRet (jVar 2)))))⟩
theorem sc__law_keys : FnScope [("_law_values_here" : Str), ("_law_sizes_here" : Str), ("_law_keys_here" : Str), ("_law_k" : Str), ("_law_row" : Str)] [("_law_values_here" : Str), ("_law_sizes_here" : Str)] (defScope s__law_keys) := ⟨rfl, rfl, rfl, by decide +kernel, rfl, by decide +kernel, by decide +kernel⟩
theorem ok__law_keys {f : Addr} {fd : FuncData} (F : Fun K ("_law_keys" : Str) ("_law_keys" : Str) s__law_keys f fd) (n_range : mg ("range" : Str) = none) (n_len : mg ("len" : Str) = none) (g__law_rows : GF P w K mg base kap ("_law_rows" : Str) 1 2 none m__law_rows []) :
  FnG P w K mg base (L2.CX P w) 2 f fd [("_law_values_here" : Str), ("_law_sizes_here" : Str)] (spD K kap 2 none m__law_keys) :=
  DL.Fun.dl F (N := [("_law_values_here" : Str), ("_law_sizes_here" : Str), ("_law_keys_here" : Str), ("_law_k" : Str), ("_law_row" : Str)]) (n := 2) (nl := 3) (e := e__law_keys) sc__law_keys rfl rfl fun cdv A outer s H E hr tk po => ⟨_, (jssCons (jSetF 2 sc__law_keys.nd (jLst jaNil))
  (jssCons (jFor po (jiRng1 n_range (jCB call_lenA sp_len n_len bt_len (josCons (jSlot 1) josNil))) (jgName 3 sc__law_keys.nd) (jssPost [3, 4] (jssOne (jFor po (jiSeqN (gCall g__law_rows (hr.mono (by decide)) tk (jcVal (jItemN (uu hr) (jSlot 0) (JE.o jInt)) (jcVal (jItemN (uu hr) (jSlot 1) (jSlot 3)) jcNil)))) (jgName 4 sc__law_keys.nd) (jssPost [4] (jssOne (jExpr (jLm PySem.F.slot_list_append PySem.F.type_list_append mt_append spm_append.two 2 (jaCons (jTup (jaCons (jVar 3) (jaCons (jVar 4) jaNil))) jaNil)))))))))
  (jssOne (jRetF (jMove 2)))))⟩
theorem sc_need_room : FnScope [("room" : Str)] [("room" : Str)] (defScope s_need_room) := ⟨rfl, rfl, rfl, by decide +kernel, rfl, by decide +kernel, by decide +kernel⟩
theorem ok_need_room {f : Addr} {fd : FuncData} (F : Fun K ("need_room" : Str) ("need_room" : Str) s_need_room f fd) {C_Room : Addr} (kk : KitK K kap [25]) (gc_Room : mg ("Room" : Str) = some (.ref C_Room)) (kc_Room : kap 25 = C_Room) (n_isinstance : mg ("isinstance" : Str) = none) (x_NoRoom : GX2 P w K mg kap ("NoRoom" : Str) 4 ("thing" : Str) okAny) :
  FnG P w K mg base (L2.CX P w) 2 f fd [("room" : Str)] (spD K kap 1 none m_need_room) :=
  DL.Fun.dl F (N := [("room" : Str)]) (n := 1) (nl := 0) (e := e_need_room) sc_need_room rfl rfl fun cdv A outer s H E hr tk po => ⟨_, (jssOne (jIf (jtNot (jTru (JE.o (jCB call_isiA (sp_isi kk) n_isinstance bt_isinstance (josCons (jSlot 0) (josCons (JE.o (jCls 25 kc_Room gc_Room)) josNil)))))) (jssOne (gRaise2 x_NoRoom ok_any (hr.mono (by decide)) tk (jVar 0))) jssNil))⟩
theorem sc_deed_fits : FnScope [("room" : Str), ("size" : Str), ("deed" : Str)] [("room" : Str), ("size" : Str), ("deed" : Str)] (defScope s_deed_fits) := ⟨rfl, rfl, rfl, by decide +kernel, rfl, by decide +kernel, by decide +kernel⟩
theorem ok_deed_fits {f : Addr} {fd : FuncData} (F : Fun K ("deed_fits" : Str) ("deed_fits" : Str) s_deed_fits f fd) (kk : KitK K kap [25]) (n_tuple : mg ("tuple" : Str) = none) (n_isinstance : mg ("isinstance" : Str) = none) (n_len : mg ("len" : Str) = none) (n_str : mg ("str" : Str) = none) (a_Room_most : Cls K (kap 25) ∧ NoAttr K (kap 25) ("most" : Str)) (g_in_range : GF P w K mg base kap ("in_range" : Str) 2 3 none m_in_range []) :
  FnG P w K mg base (L2.CX P w) 3 f fd [("room" : Str), ("size" : Str), ("deed" : Str)] (spD K kap 3 none m_deed_fits) :=
  DL.Fun.dl F (N := [("room" : Str), ("size" : Str), ("deed" : Str)]) (n := 3) (nl := 0) (e := e_deed_fits) sc_deed_fits rfl rfl fun cdv A outer s H E hr tk po => ⟨_, (jssCons (jIf (JW.pt (jwOr (jtNot (jTru (JE.o (jCB call_isiA (sp_isi kk) n_isinstance bt_isinstance (josCons (jSlot 2) (josCons (JE.o (jTy n_tuple bt_tuple)) josNil)))))) (jwOr (jBc (op_neD (uu hr)) sp_ne (JE.o (jCB call_lenA sp_len n_len bt_len (josCons (jSlot 2) josNil))) (JE.o jInt)) (jwOr1 (jtNot (jTru (JE.o (jCB call_isiA (sp_isi kk) n_isinstance bt_isinstance (josCons (JE.o (jItemN (uu hr) (jSlot 2) (JE.o jInt))) (josCons (JE.o (jTy n_str bt_str)) josNil)))))))))) (jssOne (jRet jBl)) jssNil)
  (jssCons (jIf (jBc (op_eqD (uu hr)) sp_eq (JE.o (jItemN (uu hr) (jSlot 2) (JE.o jInt))) (JE.o jStr)) (jssOne (jRet (jAndV (jCmp op_lt (spI fun _ _ _ => .bl _) (jSlot 1) (JE.o (jFld [25] (more_in a_Room_most none_in) (jSlot 0)))) (jOneV (gCall g_in_range (hr.mono (by decide)) tk (jcVal (jItemN (uu hr) (jSlot 2) (JE.o jInt)) (jcVal jInt (jcVal (jVar 1) jcNil)))))))) jssNil)
  (jssOne (jRet (jAndV (jCmp (op_eqD (uu hr)) sp_eq (JE.o (jItemN (uu hr) (jSlot 2) (JE.o jInt))) (JE.o jStr)) (jOneV (gCall g_in_range (hr.mono (by decide)) tk (jcVal (jItemN (uu hr) (jSlot 2) (JE.o jInt)) (jcVal jInt (jcVal (jSub (jSlot 1) (JE.o jInt)) jcNil))))))))))⟩
theorem sc_bad_deed_from : FnScope [("room" : Str), ("size" : Str), ("deeds" : Str), ("limit" : Str), ("index" : Str), ("deed" : Str)] [("room" : Str), ("size" : Str), ("deeds" : Str), ("limit" : Str)] (defScope s_bad_deed_from) := ⟨rfl, rfl, rfl, by decide +kernel, rfl, by decide +kernel, by decide +kernel⟩
theorem ok_bad_deed_from {f : Addr} {fd : FuncData} (F : FunD K ("bad_deed_from" : Str) ("bad_deed_from" : Str) (defArgs s_bad_deed_from) (defBody s_bad_deed_from) (defScope s_bad_deed_from) [.int 2000] [] f fd) (kk : KitK K kap [25]) (n_list : mg ("list" : Str) = none) (n_isinstance : mg ("isinstance" : Str) = none) (n_len : mg ("len" : Str) = none) (n_enumerate : mg ("enumerate" : Str) = none) (g_deed_fits : GF P w K mg base kap ("deed_fits" : Str) 3 3 none m_deed_fits []) :
  FnG P w K mg base (L2.CX P w) 4 f fd [("room" : Str), ("size" : Str), ("deeds" : Str), ("limit" : Str)] (spD K kap 4 none m_bad_deed_from) :=
  DL.FunD.dl F (N := [("room" : Str), ("size" : Str), ("deeds" : Str), ("limit" : Str), ("index" : Str), ("deed" : Str)]) (n := 4) (nl := 2) (e := e_bad_deed_from) sc_bad_deed_from rfl rfl fun cdv A outer s H E hr tk po => ⟨_, (jssCons (jIf (JW.pt (jwOr (jtNot (jTru (JE.o (jCB call_isiA (sp_isi kk) n_isinstance bt_isinstance (josCons (jSlot 2) (josCons (JE.o (jTy n_list bt_list)) josNil)))))) (jwOr1 (jBc op_gt (spI fun _ _ _ => .bl _) (JE.o (jCB call_lenA sp_len n_len bt_len (josCons (jSlot 2) josNil))) (jSlot 3))))) (jssOne (jRet (jNeg (JE.o jInt)))) jssNil)
  (jssCons (jPre [3] (jFor po (jiDrop [2] (jiEnumS n_enumerate (jVar 2))) (jgTup 2 (jgsCons (jgName 4 sc_bad_deed_from.nd) (jgsCons (jgName 5 sc_bad_deed_from.nd) jgsNil))) (jssPost [4, 5] (jssCons (jIf (jtNot (jTru (JE.o (gCall g_deed_fits (hr.mono (by decide)) tk (jcVal (jVar 0) (jcVal (jVar 1) (jcVal (jVar 5) jcNil))))))) (jssOne (jRet (jVar 4))) jssNil)
   (jssOne (jAugAdd 1 sc_bad_deed_from.nd (jIfE (jBc (op_eqD (uu hr)) sp_eq (JE.o (jItemN (uu hr) (jSlot 5) (JE.o jInt))) (JE.o jStr)) jInt (jNeg (JE.o jInt)))))))))
  (jssOne (jRet jNon))))⟩
theorem sc_need_deeds : FnScope [("room" : Str), ("deeds" : Str), ("limit" : Str), ("index" : Str)] [("room" : Str), ("deeds" : Str), ("limit" : Str)] (defScope s_need_deeds) := ⟨rfl, rfl, rfl, by decide +kernel, rfl, by decide +kernel, by decide +kernel⟩
theorem ok_need_deeds {f : Addr} {fd : FuncData} (F : FunD K ("need_deeds" : Str) ("need_deeds" : Str) (defArgs s_need_deeds) (defBody s_need_deeds) (defScope s_need_deeds) [.int 2000] [] f fd) (g_bad_deed_from : GF P w K mg base kap ("bad_deed_from" : Str) 4 4 none m_bad_deed_from []) (x_BadDeed : GX2 P w K mg kap ("BadDeed" : Str) 10 ("index" : Str) okAny) :
  FnG P w K mg base (L2.CX P w) 5 f fd [("room" : Str), ("deeds" : Str), ("limit" : Str)] (spD K kap 3 none m_need_deeds) :=
  DL.FunD.dl F (N := [("room" : Str), ("deeds" : Str), ("limit" : Str), ("index" : Str)]) (n := 3) (nl := 1) (e := e_need_deeds) sc_need_deeds rfl rfl fun cdv A outer s H E hr tk po => ⟨_, (jssCons (jSet 3 sc_need_deeds.nd (gCall g_bad_deed_from (hr.mono (by decide)) tk (jcVal (jVar 0) (jcVal jInt (jcVal (jVar 1) (jcVal (jVar 2) jcNil))))))
  (jssOne (jIf (jBc op_notN sp_notN (jSlot 3) (JE.o jNon)) (jssOne (gRaise2 x_BadDeed ok_any (hr.mono (by decide)) tk (jVar 3))) jssNil)))⟩
theorem sc_count_standings : FnScope [("room" : Str), ("total" : Str), ("ways" : Str), ("many" : Str)] [("room" : Str)] (defScope s_count_standings) := ⟨rfl, rfl, rfl, by decide +kernel, rfl, by decide +kernel, by decide +kernel⟩
theorem ok_count_standings {f : Addr} {fd : FuncData} (F : Fun K ("count_standings" : Str) ("count_standings" : Str) s_count_standings f fd) (n_range : mg ("range" : Str) = none) (a_Room_most : Cls K (kap 25) ∧ NoAttr K (kap 25) ("most" : Str)) (a_Room_labels : Cls K (kap 25) ∧ NoAttr K (kap 25) ("labels" : Str)) :
  FnG P w K mg base (L2.CX P w) 1 f fd [("room" : Str)] (spD K kap 1 none m_count_standings) :=
  DL.Fun.dl F (N := [("room" : Str), ("total" : Str), ("ways" : Str), ("many" : Str)]) (n := 1) (nl := 3) (e := e_count_standings) sc_count_standings rfl rfl fun cdv A outer s H E hr tk po => ⟨_, (jssCons (jSet 1 sc_count_standings.nd jInt)
  (jssCons (jSet 2 sc_count_standings.nd jInt)
  (jssCons (jFor po (jiRng1 n_range (jAdd (JE.o (jFld [25] (more_in a_Room_most none_in) (jSlot 0))) (JE.o jInt))) (jgName 3 sc_count_standings.nd) (jssPost [3] (jssCons (jAugAdd 1 sc_count_standings.nd (jVar 2))
   (jssOne (jSet 2 sc_count_standings.nd (jFdiv (JE.o (jMul (jSlot 2) (JE.o (jSub (JE.o (jFld [25] (more_in a_Room_labels none_in) (jSlot 0))) (jSlot 3))))) (JE.o (jAdd (jSlot 3) (JE.o jInt)))))))))
  (jssOne (jRet (jVar 1))))))⟩
theorem sc_need_few : FnScope [("room" : Str), ("limit" : Str)] [("room" : Str), ("limit" : Str)] (defScope s_need_few) := ⟨rfl, rfl, rfl, by decide +kernel, rfl, by decide +kernel, by decide +kernel⟩
theorem ok_need_few {f : Addr} {fd : FuncData} (F : FunD K ("need_few" : Str) ("need_few" : Str) (defArgs s_need_few) (defBody s_need_few) (defScope s_need_few) [.int 60] [] f fd) (g_count_standings : GF P w K mg base kap ("count_standings" : Str) 1 1 none m_count_standings []) (x_TooMany : GX2 P w K mg kap ("TooMany" : Str) 15 ("limit" : Str) okAny) :
  FnG P w K mg base (L2.CX P w) 2 f fd [("room" : Str), ("limit" : Str)] (spD K kap 2 none m_need_few) :=
  DL.FunD.dl F (N := [("room" : Str), ("limit" : Str)]) (n := 2) (nl := 0) (e := e_need_few) sc_need_few rfl rfl fun cdv A outer s H E hr tk po => ⟨_, (jssOne (jIf (jBc op_gt (spI fun _ _ _ => .bl _) (JE.o (gCall g_count_standings (hr.mono (by decide)) tk (jcVal (jVar 0) jcNil))) (jSlot 1)) (jssOne (gRaise2 x_TooMany ok_any (hr.mono (by decide)) tk (jVar 1))) jssNil))⟩
theorem sc_need_ahead : FnScope [("room" : Str), ("deeds" : Str)] [("room" : Str), ("deeds" : Str)] (defScope s_need_ahead) := ⟨rfl, rfl, rfl, by decide +kernel, rfl, by decide +kernel, by decide +kernel⟩
theorem ok_need_ahead {f : Addr} {fd : FuncData} (F : Fun K ("need_ahead" : Str) ("need_ahead" : Str) s_need_ahead f fd) {u_MOST_AHEAD : Tok} (g_need_room : GF P w K mg base kap ("need_room" : Str) 2 1 none m_need_room []) (g_need_deeds : GF P w K mg base kap ("need_deeds" : Str) 5 3 none m_need_deeds []) (v_MOST_AHEAD : mg ("MOST_AHEAD" : Str) = some (.int 300 u_MOST_AHEAD)) (g_need_few_1 : GF P w K mg base kap ("need_few" : Str) 2 2 none m_need_few [.int 60]) :
  FnG P w K mg base (L2.CX P w) 6 f fd [("room" : Str), ("deeds" : Str)] (spD K kap 2 none m_need_ahead) :=
  DL.Fun.dl F (N := [("room" : Str), ("deeds" : Str)]) (n := 2) (nl := 0) (e := e_need_ahead) sc_need_ahead rfl rfl fun cdv A outer s H E hr tk po => ⟨_, (jssCons (jExpr (gCall g_need_room (hr.mono (by decide)) tk (jcVal (jVar 0) jcNil)))
  (jssCons (jExpr (gCall g_need_deeds (hr.mono (by decide)) tk (jcVal (jVar 0) (jcVal (jVar 1) (jcVal (jGlobI v_MOST_AHEAD) jcNil)))))
  (jssOne (jExpr (gCall g_need_few_1 (hr.mono (by decide)) tk (jcVal (jVar 0) jcNil))))))⟩
theorem sc_sizes_of : FnScope [("deeds" : Str), ("sizes" : Str), ("deed" : Str)] [("deeds" : Str)] (defScope s_sizes_of) := ⟨rfl, rfl, rfl, by decide +kernel, rfl, by decide +kernel, by decide +kernel⟩
theorem ok_sizes_of {f : Addr} {fd : FuncData} (F : Fun K ("sizes_of" : Str) ("sizes_of" : Str) s_sizes_of f fd)  :
  FnG P w K mg base (L2.CX P w) 1 f fd [("deeds" : Str)] (spD K kap 1 none m_sizes_of) :=
  DL.Fun.dl F (N := [("deeds" : Str), ("sizes" : Str), ("deed" : Str)]) (n := 1) (nl := 2) (e := e_sizes_of) sc_sizes_of rfl rfl fun cdv A outer s H E hr tk po => ⟨_, (jssCons (jSetF 1 sc_sizes_of.nd (jLst (jaCons jInt jaNil)))
  (jssCons (jFor po (jiDrop [0] (jiSeqN (jVar 0))) (jgName 2 sc_sizes_of.nd) (jssPost [2] (jssOne (jExpr (jLm PySem.F.slot_list_append PySem.F.type_list_append mt_append spm_append.two 1 (jaCons (jAdd (JE.o (jItemN (uu hr) (jSlot 1) (JE.o (jNeg (JE.o jInt))))) (JE.o (jIfE (jBc (op_eqD (uu hr)) sp_eq (JE.o (jItemN (uu hr) (jSlot 2) (JE.o jInt))) (JE.o jStr)) jInt (jNeg (JE.o jInt))))) jaNil))))))
  (jssOne (jRetF (jMove 1)))))⟩
theorem sc_tuples_of : FnScope [("labels" : Str), ("size" : Str), ("rows" : Str), ("_" : Str), ("longer" : Str), ("row" : Str), ("label" : Str)] [("labels" : Str), ("size" : Str)] (defScope s_tuples_of) := ⟨rfl, rfl, rfl, by decide +kernel, rfl, by decide +kernel, by decide +kernel⟩
theorem ok_tuples_of {f : Addr} {fd : FuncData} (F : Fun K ("tuples_of" : Str) ("tuples_of" : Str) s_tuples_of f fd) (n_range : mg ("range" : Str) = none) :
  FnG P w K mg base (L2.CX P w) 1 f fd [("labels" : Str), ("size" : Str)] (spD K kap 2 none m_tuples_of) :=
  DL.Fun.dl F (N := [("labels" : Str), ("size" : Str), ("rows" : Str), ("_" : Str), ("longer" : Str), ("row" : Str), ("label" : Str)]) (n := 2) (nl := 5) (e := e_tuples_of) sc_tuples_of rfl rfl fun cdv A outer s H E hr tk po => ⟨_, (jssCons (jSet 2 sc_tuples_of.nd (JF.fz (jLst (jaCons (jTup jaNil) jaNil))))
  (jssCons (jFor po (jiDrop [1] (jiRng1 n_range (jVar 1))) (jgName 3 sc_tuples_of.nd) (jssPost [3, 4, 5, 6] (jssCons (jSetF 4 sc_tuples_of.nd (jLst jaNil))
   (jssCons (jPre [3] (jFor po (jiDrop [2] (jiSeqN (jVar 2))) (jgName 5 sc_tuples_of.nd) (jssPost [5, 6] (jssOne (jFor po (jiSeqN (jVar 0)) (jgName 6 sc_tuples_of.nd) (jssPost [6] (jssOne (jIf (JW.pt (jwOr (jtNot (jTru (jSlot 5))) (jwOr1 (jBc op_gt (spI fun _ _ _ => .bl _) (jSlot 6) (JE.o (jItemN (uu hr) (jSlot 5) (JE.o (jNeg (JE.o jInt))))))))) (jssOne (jExpr (jLm PySem.F.slot_list_append PySem.F.type_list_append mt_append spm_append.two 4 (jaCons (jAdd (jSlot 5) (JE.o (jTup (jaCons (jVar 6) jaNil)))) jaNil)))) jssNil))))))))
   (jssOne (jSet 2 sc_tuples_of.nd (jVar 4)))))))
  (jssOne (jRet (jVar 2)))))⟩
theorem sc_standings : FnScope [("room" : Str), ("size" : Str), ("labels" : Str), ("found" : Str), ("many" : Str)] [("room" : Str), ("size" : Str)] (defScope s_standings) := ⟨rfl, rfl, rfl, by decide +kernel, rfl, by decide +kernel, by decide +kernel⟩
theorem ok_standings {f : Addr} {fd : FuncData} (F : FunD K ("standings" : Str) ("standings" : Str) (defArgs s_standings) (defBody s_standings) (defScope s_standings) [.non] [] f fd) (g_need_room : GF P w K mg base kap ("need_room" : Str) 2 1 none m_need_room []) (a_Room_labels : Cls K (kap 25) ∧ NoAttr K (kap 25) ("labels" : Str)) (n_list : mg ("list" : Str) = none) (n_range : mg ("range" : Str) = none) (g_in_range : GF P w K mg base kap ("in_range" : Str) 2 3 none m_in_range []) (a_Room_most : Cls K (kap 25) ∧ NoAttr K (kap 25) ("most" : Str)) (x_NoSize : GX2 P w K mg kap ("NoSize" : Str) 5 ("size" : Str) okAny) (g_tuples_of : GF P w K mg base kap ("tuples_of" : Str) 1 2 none m_tuples_of []) :
  FnG P w K mg base (L2.CX P w) 3 f fd [("room" : Str), ("size" : Str)] (spD K kap 2 none m_standings) :=
  DL.FunD.dl F (N := [("room" : Str), ("size" : Str), ("labels" : Str), ("found" : Str), ("many" : Str)]) (n := 2) (nl := 3) (e := e_standings) sc_standings rfl rfl fun cdv A outer s H E hr tk po => ⟨_, (jssCons (jExpr (gCall g_need_room (hr.mono (by decide)) tk (jcVal (jVar 0) jcNil)))
  (jssCons (jSet 2 sc_standings.nd (JF.fz (jListR1 n_list n_range (jFld [25] (more_in a_Room_labels none_in) (jSlot 0)))))
  (jssCons (jIf (jBc op_notN sp_notN (jSlot 1) (JE.o jNon)) (jssCons (jIf (jtNot (jTru (JE.o (gCall g_in_range (hr.mono (by decide)) tk (jcVal (jVar 1) (jcVal jInt (jcVal (jFld [25] (more_in a_Room_most none_in) (jSlot 0)) jcNil))))))) (jssOne (gRaise2 x_NoSize ok_any (hr.mono (by decide)) tk (jVar 1))) jssNil)
   (jssOne (jRet (gCall g_tuples_of (hr.mono (by decide)) tk (jcVal (jVar 2) (jcVal (jVar 1) jcNil)))))) jssNil)
  (jssCons (jSetF 3 sc_standings.nd (jLst jaNil))
  (jssCons (jPre [1] (jFor po (jiDrop [0] (jiRng1 n_range (jAdd (JE.o (jFld [25] (more_in a_Room_most none_in) (jSlot 0))) (JE.o jInt)))) (jgName 4 sc_standings.nd) (jssPost [4] (jssOne (jExpr (jLm PySem.F.slot_list_extend PySem.F.type_list_extend mt_extend spm_extend 3 (jaCons (gCall g_tuples_of (hr.mono (by decide)) tk (jcVal (jVar 2) (jcVal (jVar 4) jcNil))) jaNil)))))))
  (jssOne (jRetF (jMove 3))))))))⟩
theorem sc_move_price : FnScope [("room" : Str), ("standing" : Str), ("gap" : Str), ("following" : Str), ("total" : Str), ("k" : Str), ("label" : Str), ("new" : Str)] [("room" : Str), ("standing" : Str), ("gap" : Str), ("following" : Str)] (defScope s_move_price) := ⟨rfl, rfl, rfl, by decide +kernel, rfl, by decide +kernel, by decide +kernel⟩
theorem ok_move_price {f : Addr} {fd : FuncData} (F : Fun K ("move_price" : Str) ("move_price" : Str) s_move_price f fd) (n_enumerate : mg ("enumerate" : Str) = none) (a_Room_change : Cls K (kap 25) ∧ NoAttr K (kap 25) ("change" : Str)) (a_Room_step : Cls K (kap 25) ∧ NoAttr K (kap 25) ("step" : Str)) (n_abs : mg ("abs" : Str) = none) :
  FnG P w K mg base (L2.CX P w) 1 f fd [("room" : Str), ("standing" : Str), ("gap" : Str), ("following" : Str)] (spD K kap 4 none m_move_price) :=
  DL.Fun.dl F (N := [("room" : Str), ("standing" : Str), ("gap" : Str), ("following" : Str), ("total" : Str), ("k" : Str), ("label" : Str), ("new" : Str)]) (n := 4) (nl := 4) (e := e_move_price) sc_move_price rfl rfl fun cdv A outer s H E hr tk po => ⟨_, (jssCons (jSet 4 sc_move_price.nd jInt)
  (jssCons (jFor po (jiDrop [1] (jiEnumS n_enumerate (jVar 1))) (jgTup 2 (jgsCons (jgName 5 sc_move_price.nd) (jgsCons (jgName 6 sc_move_price.nd) jgsNil))) (jssPost [5, 6, 7] (jssCons (jSet 7 sc_move_price.nd (jIfE (jBc op_lt (spI fun _ _ _ => .bl _) (jSlot 5) (jSlot 2)) (jItemN (uu hr) (jSlot 3) (jSlot 5)) (jItemN (uu hr) (jSlot 3) (JE.o (jAdd (jSlot 5) (JE.o jInt))))))
   (jssOne (jIf (jBc (op_neD (uu hr)) sp_ne (jSlot 7) (jSlot 6)) (jssOne (jAugAdd 4 sc_move_price.nd (jAdd (JE.o (jFld [25] (more_in a_Room_change none_in) (jSlot 0))) (JE.o (jMul (JE.o (jFld [25] (more_in a_Room_step none_in) (jSlot 0))) (JE.o (jCB call_abs sp_abs n_abs bt_abs (josCons (JE.o (jSub (jSlot 7) (jSlot 6))) josNil)))))))) jssNil)))))
  (jssOne (jRet (jVar 4)))))⟩
theorem sc_paid_for : FnScope [("room" : Str), ("standing" : Str), ("deed" : Str), ("following" : Str)] [("room" : Str), ("standing" : Str), ("deed" : Str), ("following" : Str)] (defScope s_paid_for) := ⟨rfl, rfl, rfl, by decide +kernel, rfl, by decide +kernel, by decide +kernel⟩
theorem ok_paid_for {f : Addr} {fd : FuncData} (F : Fun K ("paid_for" : Str) ("paid_for" : Str) s_paid_for f fd) (g_move_price : GF P w K mg base kap ("move_price" : Str) 1 4 none m_move_price []) :
  FnG P w K mg base (L2.CX P w) 2 f fd [("room" : Str), ("standing" : Str), ("deed" : Str), ("following" : Str)] (spD K kap 4 none m_paid_for) :=
  DL.Fun.dl F (N := [("room" : Str), ("standing" : Str), ("deed" : Str), ("following" : Str)]) (n := 4) (nl := 0) (e := e_paid_for) sc_paid_for rfl rfl fun cdv A outer s H E hr tk po => ⟨_, (jssCons (jIf (jBc (op_eqD (uu hr)) sp_eq (JE.o (jItemN (uu hr) (jSlot 2) (JE.o jInt))) (JE.o jStr)) (jssOne (jRet jInt)) jssNil)
  (jssOne (jRet (gCall g_move_price (hr.mono (by decide)) tk (jcVal (jVar 0) (jcVal (jVar 1) (jcVal (jItemN (uu hr) (jSlot 2) (JE.o jInt)) (jcVal (jVar 3) jcNil))))))))⟩
theorem sc_without : FnScope [("standing" : Str), ("place" : Str)] [("standing" : Str), ("place" : Str)] (defScope s_without) := ⟨rfl, rfl, rfl, by decide +kernel, rfl, by decide +kernel, by decide +kernel⟩
theorem ok_without {f : Addr} {fd : FuncData} (F : Fun K ("without" : Str) ("without" : Str) s_without f fd)  :
  FnG P w K mg base (L2.CX P w) 1 f fd [("standing" : Str), ("place" : Str)] (spD K kap 2 none m_without) :=
  DL.Fun.dl F (N := [("standing" : Str), ("place" : Str)]) (n := 2) (nl := 0) (e := e_without) sc_without rfl rfl fun cdv A outer s H E hr tk po => ⟨_, (jssOne (jRet (jAdd (JE.o (jSlA (jSlot 0) jNoP (jPart (jVar 1)))) (JE.o (jSlA (jSlot 0) (jPart (jAdd (jSlot 1) (JE.o jInt))) jNoP)))))⟩
theorem sc_after_all : FnScope [("room" : Str), ("standing" : Str), ("deed" : Str)] [("room" : Str), ("standing" : Str), ("deed" : Str)] (defScope s_after_all) := ⟨rfl, rfl, rfl, by decide +kernel, rfl, by decide +kernel, by decide +kernel⟩
theorem ok_after_all {f : Addr} {fd : FuncData} (F : Fun K ("after_all" : Str) ("after_all" : Str) s_after_all f fd) (g_without : GF P w K mg base kap ("without" : Str) 1 2 none m_without []) (g_standings : GF P w K mg base kap ("standings" : Str) 3 2 none m_standings []) (n_len : mg ("len" : Str) = none) :
  FnG P w K mg base (L2.CX P w) 4 f fd [("room" : Str), ("standing" : Str), ("deed" : Str)] (spD K kap 3 none m_after_all) :=
  DL.Fun.dl F (N := [("room" : Str), ("standing" : Str), ("deed" : Str)]) (n := 3) (nl := 0) (e := e_after_all) sc_after_all rfl rfl fun cdv A outer s H E hr tk po => ⟨_, (jssCons (jIf (jBc (op_eqD (uu hr)) sp_eq (JE.o (jItemN (uu hr) (jSlot 2) (JE.o jInt))) (JE.o jStr)) (jssOne (jRetF (jLst (jaCons (gCall g_without (hr.mono (by decide)) tk (jcVal (jVar 1) (jcVal (jItemN (uu hr) (jSlot 2) (JE.o jInt)) jcNil))) jaNil)))) jssNil)
  (jssOne (jRet (gCall g_standings (hr.mono (by decide)) tk (jcVal (jVar 0) (jcVal (jAdd (JE.o (jCB call_lenA sp_len n_len bt_len (josCons (jSlot 1) josNil))) (JE.o jInt)) jcNil))))))⟩
theorem sc_cost_table : FnScope [("room" : Str), ("deeds" : Str), ("sizes" : Str), ("table" : Str), ("row" : Str), ("index" : Str), ("deed" : Str), ("costs" : Str), ("after" : Str), ("cost" : Str)] [("room" : Str), ("deeds" : Str)] (defScope s_cost_table) := ⟨rfl, rfl, rfl, by decide +kernel, rfl, by decide +kernel, by decide +kernel⟩
theorem ok_cost_table {f : Addr} {fd : FuncData} (F : Fun K ("cost_table" : Str) ("cost_table" : Str) s_cost_table f fd) (g_sizes_of : GF P w K mg base kap ("sizes_of" : Str) 1 1 none m_sizes_of []) (g_standings : GF P w K mg base kap ("standings" : Str) 3 2 none m_standings []) (n_len : mg ("len" : Str) = none) (n_range : mg ("range" : Str) = none) (n_reversed : mg ("reversed" : Str) = none) (g_after_all : GF P w K mg base kap ("after_all" : Str) 4 3 none m_after_all []) (g_paid_for : GF P w K mg base kap ("paid_for" : Str) 2 4 none m_paid_for []) (n_int : mg ("int" : Str) = none) (n_min : mg ("min" : Str) = none) :
  FnG P w K mg base (L2.CX P w) 5 f fd [("room" : Str), ("deeds" : Str)] (spD K kap 2 none m_cost_table) :=
  DL.Fun.dl F (N := [("room" : Str), ("deeds" : Str), ("sizes" : Str), ("table" : Str), ("row" : Str), ("index" : Str), ("deed" : Str), ("costs" : Str), ("after" : Str), ("cost" : Str)]) (n := 2) (nl := 8) (e := e_cost_table) sc_cost_table rfl rfl fun cdv A outer s H E hr tk po => ⟨_, (jssCons (jSet 2 sc_cost_table.nd (gCall g_sizes_of (hr.mono (by decide)) tk (jcVal (jVar 1) jcNil)))
  (jssCons (jSetF 3 sc_cost_table.nd (by (refine' jDc [(("row" : Str), 4)] (uu hr) sc_cost_table.nd (blkOk_by (N := [("room" : Str), ("deeds" : Str), ("sizes" : Str), ("table" : Str), ("row" : Str), ("index" : Str), ("deed" : Str), ("costs" : Str), ("after" : Str), ("cost" : Str)]) (sc := defScope s_cost_table) (by decide +kernel)) (jiSeqN (gCall g_standings (hr.mono (by decide)) tk (jcVal (jVar 0) (jcVal (jItemN (uu hr) (jSlot 2) (JE.o (jNeg (JE.o jInt)))) jcNil)))) (fun _ _ _ _ _ => ?g) (fun _ _ _ _ _ => ?t) (fun _ _ _ _ _ => ?k) (fun _ _ _ _ _ => ?e) ?d); (case g => refine JG.via (jgName 4 sc_cost_table.nd) ?_; ((try dsimp only [Cx.blk]) <;> rfl)); (case t => refine JTs.via jtsNil ?_; ((try dsimp only [Cx.blk]) <;> rfl)); (case k => refine JE.via (jTup (jaCons (jCB call_lenA sp_len n_len bt_len (josCons (jSlot 1) josNil)) (jaCons (jVar 4) jaNil))) ?_; ((try dsimp only [Cx.blk]) <;> rfl)); (case e => refine JE.via jInt ?_; ((try dsimp only [Cx.blk]) <;> rfl)); (case d => decide)))
  (jssCons (jPre [4] (jFor po (jiRevR n_range n_reversed (jCB call_lenA sp_len n_len bt_len (josCons (jSlot 1) josNil))) (jgName 5 sc_cost_table.nd) (jssPost [4, 5, 6, 7] (jssCons (jSet 6 sc_cost_table.nd (jItemN (uu hr) (jSlot 1) (jSlot 5)))
   (jssOne (jFor po (jiSeqN (gCall g_standings (hr.mono (by decide)) tk (jcVal (jVar 0) (jcVal (jItemN (uu hr) (jSlot 2) (jSlot 5)) jcNil)))) (jgName 4 sc_cost_table.nd) (jssPost [4, 7] (jssCons (by (refine' jSetLc 7 [(("after" : Str), 8)] sc_cost_table.nd (blkOk_by (N := [("room" : Str), ("deeds" : Str), ("sizes" : Str), ("table" : Str), ("row" : Str), ("index" : Str), ("deed" : Str), ("costs" : Str), ("after" : Str), ("cost" : Str)]) (sc := defScope s_cost_table) (by decide +kernel)) (jiSeqN (gCall g_after_all (hr.mono (by decide)) tk (jcVal (jVar 0) (jcVal (jVar 4) (jcVal (jVar 6) jcNil))))) (fun _ _ _ _ _ => ?g) (fun _ _ _ _ _ => ?t) (fun _ _ _ _ _ => ?e) ?d); (case g => refine JG.via (jgName 8 sc_cost_table.nd) ?_; ((try dsimp only [Cx.blk]) <;> rfl)); (case t => refine JTs.via jtsNil ?_; ((try dsimp only [Cx.blk]) <;> rfl)); (case e => refine JE.via (jAdd (JE.o (gCall g_paid_for (hr.mono (by decide)) takes0 (jcVal (jVar 0) (jcVal (jVar 4) (jcVal (jVar 6) (jcVal (jVar 8) jcNil)))))) (JE.o (jItemN (uu hr) (jSlot 3) (JE.o (jTup (jaCons (jAdd (jSlot 5) (JE.o jInt)) (jaCons (jVar 8) jaNil))))))) ?_; ((try dsimp only [Cx.blk]) <;> rfl)); (case d => decide))
    (jssOne (jSetN (uu hr) 3 (jCB (cr_minA rfl) sp_min n_min bt_min (josCons (JE.o (JF.fz (by (refine' jLc [(("cost" : Str), 9)] sc_cost_table.nd (blkOk_by (N := [("room" : Str), ("deeds" : Str), ("sizes" : Str), ("table" : Str), ("row" : Str), ("index" : Str), ("deed" : Str), ("costs" : Str), ("after" : Str), ("cost" : Str)]) (sc := defScope s_cost_table) (by decide +kernel)) (jiSeqN (jVar 7)) (fun _ _ _ _ _ => ?g) (fun _ _ _ _ _ => ?t) (fun _ _ _ _ _ => ?e) ?d); (case g => refine JG.via (jgName 9 sc_cost_table.nd) ?_; ((try dsimp only [Cx.blk]) <;> rfl)); (case t => refine JTs.via jtsNil ?_; ((try dsimp only [Cx.blk]) <;> rfl)); (case e => refine JE.via (jCT call_int1 sp_int n_int bt_int (josCons (jSlot 9) josNil)) ?_; ((try dsimp only [Cx.blk]) <;> rfl)); (case d => decide)))) josNil)) (jTup (jaCons (jVar 5) (jaCons (jVar 4) jaNil)))))))))))))
  (jssOne (jRetF (jMove 3))))))⟩
theorem sc_least_total : FnScope [("room" : Str), ("deeds" : Str)] [("room" : Str), ("deeds" : Str)] (defScope s_least_total) := ⟨rfl, rfl, rfl, by decide +kernel, rfl, by decide +kernel, by decide +kernel⟩
theorem ok_least_total {f : Addr} {fd : FuncData} (F : Fun K ("least_total" : Str) ("least_total" : Str) s_least_total f fd) (g_need_ahead : GF P w K mg base kap ("need_ahead" : Str) 6 2 none m_need_ahead []) (g_cost_table : GF P w K mg base kap ("cost_table" : Str) 5 2 none m_cost_table []) :
  FnG P w K mg base (L2.CX P w) 7 f fd [("room" : Str), ("deeds" : Str)] (spD K kap 2 none m_least_total) :=
  DL.Fun.dl F (N := [("room" : Str), ("deeds" : Str)]) (n := 2) (nl := 0) (e := e_least_total) sc_least_total rfl rfl fun cdv A outer s H E hr tk po => ⟨_, (jssCons (jExpr (gCall g_need_ahead (hr.mono (by decide)) tk (jcVal (jVar 0) (jcVal (jVar 1) jcNil))))
  (jssOne (jRet (jItemN (uu hr) (JE.o (gCall g_cost_table (hr.mono (by decide)) tk (jcVal (jVar 0) (jcVal (jVar 1) jcNil)))) (JE.o (jTup (jaCons jInt (jaCons (jTup jaNil) jaNil))))))))⟩
theorem sc_plan_certificate : FnScope [("room" : Str), ("deeds" : Str)] [("room" : Str), ("deeds" : Str)] (defScope s_plan_certificate) := ⟨rfl, rfl, rfl, by decide +kernel, rfl, by decide +kernel, by decide +kernel⟩
theorem ok_plan_certificate {f : Addr} {fd : FuncData} (F : Fun K ("plan_certificate" : Str) ("plan_certificate" : Str) s_plan_certificate f fd) (g_need_ahead : GF P w K mg base kap ("need_ahead" : Str) 6 2 none m_need_ahead []) (g_cost_table : GF P w K mg base kap ("cost_table" : Str) 5 2 none m_cost_table []) :
  FnG P w K mg base (L2.CX P w) 7 f fd [("room" : Str), ("deeds" : Str)] (spD K kap 2 none m_plan_certificate) :=
  DL.Fun.dl F (N := [("room" : Str), ("deeds" : Str)]) (n := 2) (nl := 0) (e := e_plan_certificate) sc_plan_certificate rfl rfl fun cdv A outer s H E hr tk po => ⟨_, (jssCons (jExpr (gCall g_need_ahead (hr.mono (by decide)) tk (jcVal (jVar 0) (jcVal (jVar 1) jcNil))))
  (jssOne (jRetF (gCallF g_cost_table (hr.mono (by decide)) tk (jcVal (jVar 0) (jcVal (jVar 1) jcNil))))))⟩
theorem sc__law_spoil : FnScope [("_law_state_here" : Str), ("_law_keys_here" : Str), ("_law_table" : Str), ("_law_found" : Str), ("_law_turned" : Str), ("_law_kind" : Str), ("_law_at" : Str), ("_law_changed" : Str), ("_law_change" : Str), ("_law_j" : Str), ("_law_k" : Str), ("_law_thing" : Str)] [("_law_state_here" : Str), ("_law_keys_here" : Str), ("_law_table" : Str)] (defScope s__law_spoil) := ⟨rfl, rfl, rfl, by decide +kernel, rfl, by decide +kernel, by decide +kernel⟩
theorem ok__law_spoil {f : Addr} {fd : FuncData} (F : Fun K ("_law_spoil" : Str) ("_law_spoil" : Str) s__law_spoil f fd) (g__law_draw : GF P w K mg base kap ("_law_draw" : Str) 1 2 (some 0) m__law_draw []) (n_len : mg ("len" : Str) = none) (n_range : mg ("range" : Str) = none) :
  FnG P w K mg base (L2.CX P w) 2 f fd [("_law_state_here" : Str), ("_law_keys_here" : Str), ("_law_table" : Str)] (spD K kap 3 (some 0) m__law_spoil) :=
  DL.Fun.dl F (N := [("_law_state_here" : Str), ("_law_keys_here" : Str), ("_law_table" : Str), ("_law_found" : Str), ("_law_turned" : Str), ("_law_kind" : Str), ("_law_at" : Str), ("_law_changed" : Str), ("_law_change" : Str), ("_law_j" : Str), ("_law_k" : Str), ("_law_thing" : Str)]) (n := 3) (nl := 9) (e := e__law_spoil) sc__law_spoil rfl rfl fun cdv A outer s H E hr tk po => ⟨_, (jssCons (jSetF 3 sc__law_spoil.nd (jDn0))
  (jssCons (jSet 4 sc__law_spoil.nd (jCmp (op_eqD (uu hr)) sp_eq (JE.o (gCall g__law_draw (hr.mono (by decide)) tk (jcSlot 0 (jcVal jInt jcNil)))) (JE.o jInt)))
  (jssCons (jSet 5 sc__law_spoil.nd (gCall g__law_draw (hr.mono (by decide)) tk (jcSlot 0 (jcVal jInt jcNil))))
  (jssCons (jSet 6 sc__law_spoil.nd (gCall g__law_draw (hr.mono (by decide)) tk (jcSlot 0 (jcVal (jCB call_lenA sp_len n_len bt_len (josCons (jSlot 1) josNil)) jcNil))))
  (jssCons (jSet 7 sc__law_spoil.nd (JF.fz (jLst (jaCons (gCall g__law_draw (hr.mono (by decide)) tk (jcSlot 0 (jcVal (jCB call_lenA sp_len n_len bt_len (josCons (jSlot 1) josNil)) jcNil))) (jaCons (gCall g__law_draw (hr.mono (by decide)) tk (jcSlot 0 (jcVal (jCB call_lenA sp_len n_len bt_len (josCons (jSlot 1) josNil)) jcNil))) jaNil)))))
  (jssCons (jSet 8 sc__law_spoil.nd (jSub (JE.o (gCall g__law_draw (hr.mono (by decide)) tk (jcSlot 0 (jcVal jInt jcNil)))) (JE.o jInt)))
  (jssCons (jFor po (jiRng1 n_range (jCB call_lenA sp_len n_len bt_len (josCons (jSlot 1) josNil))) (jgName 9 sc__law_spoil.nd) (jssPost [9, 10, 11] (jssCons (jSet 10 sc__law_spoil.nd (jVar 9))
   (jssCons (jIf (jTru (jSlot 4)) (jssOne (jSet 10 sc__law_spoil.nd (jSub (JE.o (jSub (JE.o (jCB call_lenA sp_len n_len bt_len (josCons (jSlot 1) josNil))) (JE.o jInt))) (jSlot 9)))) jssNil)
   (jssCons (jSet 11 sc__law_spoil.nd (jItemN (uu hr) (jSlot 2) (JE.o (jItemN (uu hr) (jSlot 1) (jSlot 10)))))
   (jssCons (jIf (JW.pt (jwAnd (jBc (op_inG (uu65 hr)) sp_inN (jSlot 10) (jSlot 7)) (jwAnd1 (jBc op_lt (spI fun _ _ _ => .bl _) (jSlot 5) (JE.o jInt))))) (jssOne (jSet 11 sc__law_spoil.nd (jAdd (jSlot 11) (jSlot 8)))) jssNil)
   (jssCons (jIf (JW.pt (jwAnd (jBc (op_eqD (uu hr)) sp_eq (jSlot 10) (jSlot 6)) (jwAnd1 (jBc (op_eqD (uu hr)) sp_eq (jSlot 5) (JE.o jInt))))) (jssOne (jSet 11 sc__law_spoil.nd (jItemN (uu hr) (JE.o (JF.fz (jLst (jaCons jNon (jaCons jBl (jaCons jStr (jaCons (jTup (jaCons jInt jaNil)) (jaCons (JF.fz (jLst (jaCons jInt jaNil))) (jaCons jBl jaNil))))))))) (JE.o (gCall g__law_draw (hr.mono (by decide)) tk (jcSlot 0 (jcVal jInt jcNil))))))) jssNil)
   (jssOne (jIf (JW.pt (jwOr (jBc (op_neD (uu hr)) sp_ne (jSlot 10) (jSlot 6)) (jwOr1 (jBc (op_neD (uu hr)) sp_ne (jSlot 5) (JE.o jInt))))) (jssOne (jSetN (uu hr) 3 (jVar 11) (jItemN (uu hr) (jSlot 1) (jSlot 10)))) jssNil)))))))))
  (jssCons (jIf (jBc (op_eqD (uu hr)) sp_eq (jSlot 5) (JE.o jInt)) (jssOne (jSetN (uu hr) 3 jNon (jTup (jaCons jInt (jaCons (jTup (jaCons jInt jaNil)) jaNil))))) jssNil)
  (jssOne (jRetF (jMove 3)))))))))))⟩
theorem sc__law_without : FnScope [("_law_row" : Str), ("_law_place" : Str)] [("_law_row" : Str), ("_law_place" : Str)] (defScope s__law_without) := ⟨rfl, rfl, rfl, by decide +kernel, rfl, by decide +kernel, by decide +kernel⟩
theorem ok__law_without {f : Addr} {fd : FuncData} (F : Fun K ("_law_without" : Str) ("_law_without" : Str) s__law_without f fd)  :
  FnG P w K mg base (L2.CX P w) 1 f fd [("_law_row" : Str), ("_law_place" : Str)] (spD K kap 2 none m__law_without) :=
  DL.Fun.dl F (N := [("_law_row" : Str), ("_law_place" : Str)]) (n := 2) (nl := 0) (e := e__law_without) sc__law_without rfl rfl fun cdv A outer s H E hr tk po => ⟨_, (jssOne (jRet (jAdd (JE.o (jSlA (jSlot 0) jNoP (jPart (jVar 1)))) (JE.o (jSlA (jSlot 0) (jPart (jAdd (jSlot 1) (JE.o jInt))) jNoP)))))⟩
theorem sc__law_after : FnScope [("_law_values_here" : Str), ("_law_row" : Str), ("_law_deed" : Str)] [("_law_values_here" : Str), ("_law_row" : Str), ("_law_deed" : Str)] (defScope s__law_after) := ⟨rfl, rfl, rfl, by decide +kernel, rfl, by decide +kernel, by decide +kernel⟩
theorem ok__law_after {f : Addr} {fd : FuncData} (F : Fun K ("_law_after" : Str) ("_law_after" : Str) s__law_after f fd) (g__law_without : GF P w K mg base kap ("_law_without" : Str) 1 2 none m__law_without []) (g__law_rows : GF P w K mg base kap ("_law_rows" : Str) 1 2 none m__law_rows []) (n_len : mg ("len" : Str) = none) :
  FnG P w K mg base (L2.CX P w) 2 f fd [("_law_values_here" : Str), ("_law_row" : Str), ("_law_deed" : Str)] (spD K kap 3 none m__law_after) :=
  DL.Fun.dl F (N := [("_law_values_here" : Str), ("_law_row" : Str), ("_law_deed" : Str)]) (n := 3) (nl := 0) (e := e__law_after) sc__law_after rfl rfl fun cdv A outer s H E hr tk po => ⟨_, (jssCons (jIf (jBc (op_eqD (uu hr)) sp_eq (JE.o (jItemN (uu hr) (jSlot 2) (JE.o jInt))) (JE.o jStr)) (jssOne (jRetF (jLst (jaCons (gCall g__law_without (hr.mono (by decide)) tk (jcVal (jVar 1) (jcVal (jItemN (uu hr) (jSlot 2) (JE.o jInt)) jcNil))) jaNil)))) jssNil)
  (jssOne (jRet (gCall g__law_rows (hr.mono (by decide)) tk (jcVal (jItemN (uu hr) (jSlot 0) (JE.o jInt)) (jcVal (jAdd (JE.o (jCB call_lenA sp_len n_len bt_len (josCons (jSlot 1) josNil))) (JE.o jInt)) jcNil))))))⟩
theorem sc__law_whole : FnScope [("_law_thing" : Str)] [("_law_thing" : Str)] (defScope s__law_whole) := ⟨rfl, rfl, rfl, by decide +kernel, rfl, by decide +kernel, by decide +kernel⟩
theorem ok__law_whole {f : Addr} {fd : FuncData} (F : Fun K ("_law_whole" : Str) ("_law_whole" : Str) s__law_whole f fd) (kk : KitK K kap [25]) (n_int : mg ("int" : Str) = none) (n_isinstance : mg ("isinstance" : Str) = none) (n_bool : mg ("bool" : Str) = none) :
  FnG P w K mg base (L2.CX P w) 1 f fd [("_law_thing" : Str)] (spD K kap 1 none m__law_whole) :=
  DL.Fun.dl F (N := [("_law_thing" : Str)]) (n := 1) (nl := 0) (e := e__law_whole) sc__law_whole rfl rfl fun cdv A outer s H E hr tk po => ⟨_, (jssOne (jRet (jAndV (jCB call_isiA (sp_isi kk) n_isinstance bt_isinstance (josCons (jSlot 0) (josCons (JE.o (jTy n_int bt_int)) josNil))) (jOneV (jNotV (jCB call_isiA (sp_isi kk) n_isinstance bt_isinstance (josCons (jSlot 0) (josCons (JE.o (jTy n_bool bt_bool)) josNil))))))))⟩
theorem sc__law_price : FnScope [("_law_values_here" : Str), ("_law_row" : Str), ("_law_gap" : Str), ("_law_after_here" : Str), ("_law_total" : Str), ("_law_k" : Str), ("_law_new" : Str)] [("_law_values_here" : Str), ("_law_row" : Str), ("_law_gap" : Str), ("_law_after_here" : Str)] (defScope s__law_price) := ⟨rfl, rfl, rfl, by decide +kernel, rfl, by decide +kernel, by decide +kernel⟩
theorem ok__law_price {f : Addr} {fd : FuncData} (F : Fun K ("_law_price" : Str) ("_law_price" : Str) s__law_price f fd) (n_range : mg ("range" : Str) = none) (n_len : mg ("len" : Str) = none) (n_int : mg ("int" : Str) = none) (n_abs : mg ("abs" : Str) = none) :
  FnG P w K mg base (L2.CX P w) 1 f fd [("_law_values_here" : Str), ("_law_row" : Str), ("_law_gap" : Str), ("_law_after_here" : Str)] (spD K kap 4 none m__law_price) :=
  DL.Fun.dl F (N := [("_law_values_here" : Str), ("_law_row" : Str), ("_law_gap" : Str), ("_law_after_here" : Str), ("_law_total" : Str), ("_law_k" : Str), ("_law_new" : Str)]) (n := 4) (nl := 3) (e := e__law_price) sc__law_price rfl rfl fun cdv A outer s H E hr tk po => ⟨_, (jssCons (jSet 4 sc__law_price.nd jInt)
  (jssCons (jFor po (jiRng1 n_range (jCB call_lenA sp_len n_len bt_len (josCons (jSlot 1) josNil))) (jgName 5 sc__law_price.nd) (jssPost [5, 6] (jssCons (jSet 6 sc__law_price.nd (jItemN (uu hr) (jSlot 3) (JE.o (jAdd (jSlot 5) (JE.o (jCT call_int1 sp_int n_int bt_int (josCons (JE.o (jCmp op_ge (spI fun _ _ _ => .bl _) (jSlot 5) (jSlot 2))) josNil)))))))
   (jssOne (jIf (jBc (op_neD (uu hr)) sp_ne (jSlot 6) (JE.o (jItemN (uu hr) (jSlot 1) (jSlot 5)))) (jssOne (jSet 4 sc__law_price.nd (jAdd (JE.o (jAdd (jSlot 4) (JE.o (jItemN (uu hr) (jSlot 0) (JE.o jInt))))) (JE.o (jMul (JE.o (jItemN (uu hr) (jSlot 0) (JE.o jInt))) (JE.o (jCB call_abs sp_abs n_abs bt_abs (josCons (JE.o (jSub (jSlot 6) (JE.o (jItemN (uu hr) (jSlot 1) (jSlot 5))))) josNil)))))))) jssNil)))))
  (jssOne (jRet (jVar 4)))))⟩
theorem sc__law_paid : FnScope [("_law_values_here" : Str), ("_law_row" : Str), ("_law_deed" : Str), ("_law_after_here" : Str)] [("_law_values_here" : Str), ("_law_row" : Str), ("_law_deed" : Str), ("_law_after_here" : Str)] (defScope s__law_paid) := ⟨rfl, rfl, rfl, by decide +kernel, rfl, by decide +kernel, by decide +kernel⟩
theorem ok__law_paid {f : Addr} {fd : FuncData} (F : Fun K ("_law_paid" : Str) ("_law_paid" : Str) s__law_paid f fd) (g__law_price : GF P w K mg base kap ("_law_price" : Str) 1 4 none m__law_price []) :
  FnG P w K mg base (L2.CX P w) 2 f fd [("_law_values_here" : Str), ("_law_row" : Str), ("_law_deed" : Str), ("_law_after_here" : Str)] (spD K kap 4 none m__law_paid) :=
  DL.Fun.dl F (N := [("_law_values_here" : Str), ("_law_row" : Str), ("_law_deed" : Str), ("_law_after_here" : Str)]) (n := 4) (nl := 0) (e := e__law_paid) sc__law_paid rfl rfl fun cdv A outer s H E hr tk po => ⟨_, (jssCons (jIf (jBc (op_eqD (uu hr)) sp_eq (JE.o (jItemN (uu hr) (jSlot 2) (JE.o jInt))) (JE.o jStr)) (jssOne (jRet jInt)) jssNil)
  (jssOne (jRet (gCall g__law_price (hr.mono (by decide)) tk (jcVal (jVar 0) (jcVal (jVar 1) (jcVal (jItemN (uu hr) (jSlot 2) (JE.o jInt)) (jcVal (jVar 3) jcNil))))))))⟩
theorem sc__law_due : FnScope [("_law_values_here" : Str), ("_law_deeds_here" : Str), ("_law_sizes_here" : Str), ("_law_total" : Str), ("_law_table" : Str), ("_law_key" : Str), ("_law_row" : Str), ("_law_k" : Str), ("_law_after_here" : Str)] [("_law_values_here" : Str), ("_law_deeds_here" : Str), ("_law_sizes_here" : Str), ("_law_total" : Str), ("_law_table" : Str)] (defScope s__law_due) := ⟨rfl, rfl, rfl, by decide +kernel, rfl, by decide +kernel, by decide +kernel⟩
theorem ok__law_due {f : Addr} {fd : FuncData} (F : Fun K ("_law_due" : Str) ("_law_due" : Str) s__law_due f fd) (g__law_keys : GF P w K mg base kap ("_law_keys" : Str) 2 2 none m__law_keys []) (g__law_whole : GF P w K mg base kap ("_law_whole" : Str) 1 1 none m__law_whole []) (g__law_rows : GF P w K mg base kap ("_law_rows" : Str) 1 2 none m__law_rows []) (n_len : mg ("len" : Str) = none) (n_range : mg ("range" : Str) = none) (g__law_after : GF P w K mg base kap ("_law_after" : Str) 2 3 none m__law_after []) (g__law_paid : GF P w K mg base kap ("_law_paid" : Str) 2 4 none m__law_paid []) :
  FnG P w K mg base (L2.CX P w) 3 f fd [("_law_values_here" : Str), ("_law_deeds_here" : Str), ("_law_sizes_here" : Str), ("_law_total" : Str), ("_law_table" : Str)] (spD K kap 5 none m__law_due) :=
  DL.Fun.dl F (N := [("_law_values_here" : Str), ("_law_deeds_here" : Str), ("_law_sizes_here" : Str), ("_law_total" : Str), ("_law_table" : Str), ("_law_key" : Str), ("_law_row" : Str), ("_law_k" : Str), ("_law_after_here" : Str)]) (n := 5) (nl := 4) (e := e__law_due) sc__law_due rfl rfl fun cdv A outer s H E hr tk po => ⟨_, (jssCons (jFor po (jiSeqN (gCall g__law_keys (hr.mono (by decide)) tk (jcVal (jVar 0) (jcVal (jVar 2) jcNil)))) (jgName 5 sc__law_due.nd) (jssPost [5] (jssOne (jIf (JW.pt (jwOr (jBc (op_notInG (uu65 hr)) sp_notInN (jSlot 5) (jSlot 4)) (jwOr1 (jtNot (jTru (JE.o (gCall g__law_whole (hr.mono (by decide)) tk (jcVal (jItemN (uu hr) (jSlot 4) (jSlot 5)) jcNil)))))))) (jssOne (jRet (jTup (jaCons jStr (jaCons (jItemN (uu hr) (jSlot 5) (JE.o jInt)) (jaCons (jItemN (uu hr) (jSlot 5) (JE.o jInt)) jaNil)))))) jssNil))))
  (jssCons (jFor po (jiSeqN (gCall g__law_rows (hr.mono (by decide)) tk (jcVal (jItemN (uu hr) (jSlot 0) (JE.o jInt)) (jcVal (jItemN (uu hr) (jSlot 2) (JE.o (jNeg (JE.o jInt)))) jcNil)))) (jgName 6 sc__law_due.nd) (jssPost [6] (jssOne (jIf (jBc op_gt (spI fun _ _ _ => .bl _) (JE.o (jItemN (uu hr) (jSlot 4) (JE.o (jTup (jaCons (jCB call_lenA sp_len n_len bt_len (josCons (jSlot 1) josNil)) (jaCons (jVar 6) jaNil)))))) (JE.o jInt)) (jssOne (jRet (jTup (jaCons jStr (jaCons (jVar 6) jaNil))))) jssNil))))
  (jssCons (jFor po (jiRng1 n_range (jCB call_lenA sp_len n_len bt_len (josCons (jSlot 1) josNil))) (jgName 7 sc__law_due.nd) (jssPost [6, 7, 8] (jssOne (jFor po (jiSeqN (gCall g__law_rows (hr.mono (by decide)) tk (jcVal (jItemN (uu hr) (jSlot 0) (JE.o jInt)) (jcVal (jItemN (uu hr) (jSlot 2) (jSlot 7)) jcNil)))) (jgName 6 sc__law_due.nd) (jssPost [6, 8] (jssOne (jFor po (jiSeqN (gCall g__law_after (hr.mono (by decide)) tk (jcVal (jVar 0) (jcVal (jVar 6) (jcVal (jItemN (uu hr) (jSlot 1) (jSlot 7)) jcNil))))) (jgName 8 sc__law_due.nd) (jssPost [8] (jssOne (jIf (jBc op_gt (spI fun _ _ _ => .bl _) (JE.o (jItemN (uu hr) (jSlot 4) (JE.o (jTup (jaCons (jVar 7) (jaCons (jVar 6) jaNil)))))) (JE.o (jAdd (JE.o (gCall g__law_paid (hr.mono (by decide)) tk (jcVal (jVar 0) (jcVal (jVar 6) (jcVal (jItemN (uu hr) (jSlot 1) (jSlot 7)) (jcVal (jVar 8) jcNil)))))) (JE.o (jItemN (uu hr) (jSlot 4) (JE.o (jTup (jaCons (jAdd (jSlot 7) (JE.o jInt)) (jaCons (jVar 8) jaNil))))))))) (jssOne (jRet (jTup (jaCons jStr (jaCons (jVar 7) (jaCons (jVar 6) (jaCons (jVar 8) jaNil))))))) jssNil))))))))))
  (jssCons (jIf (jBc op_gt (spI fun _ _ _ => .bl _) (jSlot 3) (JE.o (jItemN (uu hr) (jSlot 4) (JE.o (jTup (jaCons jInt (jaCons (jTup jaNil) jaNil))))))) (jssOne (jRet (jTup (jaCons jStr jaNil)))) jssNil)
  (jssOne (jRet jNon))))))⟩
theorem sc__law_same : FnScope [("_law_told" : Str), ("_law_due_here" : Str)] [("_law_told" : Str), ("_law_due_here" : Str)] (defScope s__law_same) := ⟨rfl, rfl, rfl, by decide +kernel, rfl, by decide +kernel, by decide +kernel⟩
theorem ok__law_same {f : Addr} {fd : FuncData} (F : Fun K ("_law_same" : Str) ("_law_same" : Str) s__law_same f fd) (kk : KitK K kap [25]) (n_tuple : mg ("tuple" : Str) = none) (n_isinstance : mg ("isinstance" : Str) = none) :
  FnG P w K mg base (L2.CX P w) 1 f fd [("_law_told" : Str), ("_law_due_here" : Str)] (spD K kap 2 none m__law_same) :=
  DL.Fun.dl F (N := [("_law_told" : Str), ("_law_due_here" : Str)]) (n := 2) (nl := 0) (e := e__law_same) sc__law_same rfl rfl fun cdv A outer s H E hr tk po => ⟨_, (jssCons (jIf (jBc op_isN sp_isN (jSlot 1) (JE.o jNon)) (jssOne (jRet (jCmp op_isN sp_isN (jSlot 0) (JE.o jNon)))) jssNil)
  (jssOne (jRet (jAndV (jCB call_isiA (sp_isi kk) n_isinstance bt_isinstance (josCons (jSlot 0) (josCons (JE.o (jTy n_tuple bt_tuple)) josNil))) (jOneV (jCmp (op_eqD (uu hr)) sp_eq (jSlot 0) (jSlot 1)))))))⟩
theorem sc_need_dict : FnScope [("thing" : Str)] [("thing" : Str)] (defScope s_need_dict) := ⟨rfl, rfl, rfl, by decide +kernel, rfl, by decide +kernel, by decide +kernel⟩
theorem ok_need_dict {f : Addr} {fd : FuncData} (F : Fun K ("need_dict" : Str) ("need_dict" : Str) s_need_dict f fd) (kk : KitK K kap [25]) (n_dict : mg ("dict" : Str) = none) (n_isinstance : mg ("isinstance" : Str) = none) (x_NoHeights : GX2 P w K mg kap ("NoHeights" : Str) 22 ("thing" : Str) okAny) :
  FnG P w K mg base (L2.CX P w) 2 f fd [("thing" : Str)] (spD K kap 1 none m_need_dict) :=
  DL.Fun.dl F (N := [("thing" : Str)]) (n := 1) (nl := 0) (e := e_need_dict) sc_need_dict rfl rfl fun cdv A outer s H E hr tk po => ⟨_, (jssOne (jIf (jtNot (jTru (JE.o (jCB call_isiA (sp_isi kk) n_isinstance bt_isinstance (josCons (jSlot 0) (josCons (JE.o (jTy n_dict bt_dict)) josNil)))))) (jssOne (gRaise2 x_NoHeights ok_any (hr.mono (by decide)) tk (jVar 0))) jssNil))⟩
theorem sc_key_fault : FnScope [("room" : Str), ("deeds" : Str), ("table" : Str), ("sizes" : Str), ("index" : Str), ("size" : Str), ("row" : Str)] [("room" : Str), ("deeds" : Str), ("table" : Str)] (defScope s_key_fault) := ⟨rfl, rfl, rfl, by decide +kernel, rfl, by decide +kernel, by decide +kernel⟩
theorem ok_key_fault {f : Addr} {fd : FuncData} (F : Fun K ("key_fault" : Str) ("key_fault" : Str) s_key_fault f fd) (g_sizes_of : GF P w K mg base kap ("sizes_of" : Str) 1 1 none m_sizes_of []) (n_enumerate : mg ("enumerate" : Str) = none) (g_standings : GF P w K mg base kap ("standings" : Str) 3 2 none m_standings []) (g_is_integer : GF P w K mg base kap ("is_integer" : Str) 1 1 none m_is_integer []) (n_len : mg ("len" : Str) = none) :
  FnG P w K mg base (L2.CX P w) 4 f fd [("room" : Str), ("deeds" : Str), ("table" : Str)] (spD K kap 3 none m_key_fault) :=
  DL.Fun.dl F (N := [("room" : Str), ("deeds" : Str), ("table" : Str), ("sizes" : Str), ("index" : Str), ("size" : Str), ("row" : Str)]) (n := 3) (nl := 4) (e := e_key_fault) sc_key_fault rfl rfl fun cdv A outer s H E hr tk po => ⟨_, (jssCons (jSet 3 sc_key_fault.nd (gCall g_sizes_of (hr.mono (by decide)) tk (jcVal (jVar 1) jcNil)))
  (jssCons (jFor po (jiEnumS n_enumerate (jVar 3)) (jgTup 2 (jgsCons (jgName 4 sc_key_fault.nd) (jgsCons (jgName 5 sc_key_fault.nd) jgsNil))) (jssPost [4, 5, 6] (jssOne (jFor po (jiDrop [5] (jiSeqN (gCall g_standings (hr.mono (by decide)) tk (jcVal (jVar 0) (jcVal (jVar 5) jcNil))))) (jgName 6 sc_key_fault.nd) (jssPost [6] (jssOne (jIf (JW.pt (jwOr (jBc (op_notInG (uu65 hr)) sp_notInN (JE.o (jTup (jaCons (jVar 4) (jaCons (jVar 6) jaNil)))) (jSlot 2)) (jwOr1 (jtNot (jTru (JE.o (gCall g_is_integer (hr.mono (by decide)) tk (jcVal (jItemN (uu hr) (jSlot 2) (JE.o (jTup (jaCons (jVar 4) (jaCons (jVar 6) jaNil))))) jcNil)))))))) (jssOne (jRet (jTup (jaCons jStr (jaCons (jVar 4) (jaCons (jVar 6) jaNil)))))) jssNil)))))))
  (jssCons (jFor po (jiDrop [0, 3] (jiSeqN (gCall g_standings (hr.mono (by decide)) tk (jcVal (jVar 0) (jcVal (jItemN (uu hr) (jSlot 3) (JE.o (jNeg (JE.o jInt)))) jcNil))))) (jgName 6 sc_key_fault.nd) (jssPost [6] (jssOne (jIf (jBc op_gt (spI fun _ _ _ => .bl _) (JE.o (jItemN (uu hr) (jSlot 2) (JE.o (jTup (jaCons (jCB call_lenA sp_len n_len bt_len (josCons (jSlot 1) josNil)) (jaCons (jVar 6) jaNil)))))) (JE.o jInt)) (jssOne (jRet (jTup (jaCons jStr (jaCons (jVar 6) jaNil))))) jssNil))))
  (jssOne (jRet jNon)))))⟩
theorem sc_plan_fault : FnScope [("room" : Str), ("deeds" : Str), ("total" : Str), ("table" : Str), ("fault" : Str), ("sizes" : Str), ("index" : Str), ("deed" : Str), ("row" : Str), ("after" : Str)] [("room" : Str), ("deeds" : Str), ("total" : Str), ("table" : Str)] (defScope s_plan_fault) := ⟨rfl, rfl, rfl, by decide +kernel, rfl, by decide +kernel, by decide +kernel⟩
theorem ok_plan_fault {f : Addr} {fd : FuncData} (F : Fun K ("plan_fault" : Str) ("plan_fault" : Str) s_plan_fault f fd) {u_MOST_AHEAD : Tok} (g_need_room : GF P w K mg base kap ("need_room" : Str) 2 1 none m_need_room []) (g_need_deeds : GF P w K mg base kap ("need_deeds" : Str) 5 3 none m_need_deeds []) (v_MOST_AHEAD : mg ("MOST_AHEAD" : Str) = some (.int 300 u_MOST_AHEAD)) (g_is_integer : GF P w K mg base kap ("is_integer" : Str) 1 1 none m_is_integer []) (x_NoLevel : GX2 P w K mg kap ("NoLevel" : Str) 21 ("thing" : Str) okAny) (g_need_dict : GF P w K mg base kap ("need_dict" : Str) 2 1 none m_need_dict []) (g_need_few_1 : GF P w K mg base kap ("need_few" : Str) 2 2 none m_need_few [.int 60]) (g_key_fault : GF P w K mg base kap ("key_fault" : Str) 4 3 none m_key_fault []) (g_sizes_of : GF P w K mg base kap ("sizes_of" : Str) 1 1 none m_sizes_of []) (n_enumerate : mg ("enumerate" : Str) = none) (g_standings : GF P w K mg base kap ("standings" : Str) 3 2 none m_standings []) (g_after_all : GF P w K mg base kap ("after_all" : Str) 4 3 none m_after_all []) (g_paid_for : GF P w K mg base kap ("paid_for" : Str) 2 4 none m_paid_for []) :
  FnG P w K mg base (L2.CX P w) 6 f fd [("room" : Str), ("deeds" : Str), ("total" : Str), ("table" : Str)] (spD K kap 4 none m_plan_fault) :=
  DL.Fun.dl F (N := [("room" : Str), ("deeds" : Str), ("total" : Str), ("table" : Str), ("fault" : Str), ("sizes" : Str), ("index" : Str), ("deed" : Str), ("row" : Str), ("after" : Str)]) (n := 4) (nl := 6) (e := e_plan_fault) sc_plan_fault rfl rfl fun cdv A outer s H E hr tk po => ⟨_, (jssCons (jExpr (gCall g_need_room (hr.mono (by decide)) tk (jcVal (jVar 0) jcNil)))
  (jssCons (jExpr (gCall g_need_deeds (hr.mono (by decide)) tk (jcVal (jVar 0) (jcVal (jVar 1) (jcVal (jGlobI v_MOST_AHEAD) jcNil)))))
  (jssCons (jIf (jtNot (jTru (JE.o (gCall g_is_integer (hr.mono (by decide)) tk (jcVal (jVar 2) jcNil))))) (jssOne (gRaise2 x_NoLevel ok_any (hr.mono (by decide)) tk (jVar 2))) jssNil)
  (jssCons (jExpr (gCall g_need_dict (hr.mono (by decide)) tk (jcVal (jVar 3) jcNil)))
  (jssCons (jExpr (gCall g_need_few_1 (hr.mono (by decide)) tk (jcVal (jVar 0) jcNil)))
  (jssCons (jSet 4 sc_plan_fault.nd (gCall g_key_fault (hr.mono (by decide)) tk (jcVal (jVar 0) (jcVal (jVar 1) (jcVal (jVar 3) jcNil)))))
  (jssCons (jIf (jBc op_notN sp_notN (jSlot 4) (JE.o jNon)) (jssOne (jRet (jVar 4))) jssNil)
  (jssCons (jSet 5 sc_plan_fault.nd (gCall g_sizes_of (hr.mono (by decide)) tk (jcVal (jVar 1) jcNil)))
  (jssCons (jPre [4] (jFor po (jiDrop [1] (jiEnumS n_enumerate (jVar 1))) (jgTup 2 (jgsCons (jgName 6 sc_plan_fault.nd) (jgsCons (jgName 7 sc_plan_fault.nd) jgsNil))) (jssPost [6, 7, 8, 9] (jssOne (jFor po (jiSeqN (gCall g_standings (hr.mono (by decide)) tk (jcVal (jVar 0) (jcVal (jItemN (uu hr) (jSlot 5) (jSlot 6)) jcNil)))) (jgName 8 sc_plan_fault.nd) (jssPost [8, 9] (jssOne (jFor po (jiSeqN (gCall g_after_all (hr.mono (by decide)) tk (jcVal (jVar 0) (jcVal (jVar 8) (jcVal (jVar 7) jcNil))))) (jgName 9 sc_plan_fault.nd) (jssPost [9] (jssOne (jIf (jBc op_gt (spI fun _ _ _ => .bl _) (JE.o (jItemN (uu hr) (jSlot 3) (JE.o (jTup (jaCons (jVar 6) (jaCons (jVar 8) jaNil)))))) (JE.o (jAdd (JE.o (gCall g_paid_for (hr.mono (by decide)) tk (jcVal (jVar 0) (jcVal (jVar 8) (jcVal (jVar 7) (jcVal (jVar 9) jcNil)))))) (JE.o (jItemN (uu hr) (jSlot 3) (JE.o (jTup (jaCons (jAdd (jSlot 6) (JE.o jInt)) (jaCons (jVar 9) jaNil))))))))) (jssOne (jRet (jTup (jaCons jStr (jaCons (jVar 6) (jaCons (jVar 8) (jaCons (jVar 9) jaNil))))))) jssNil)))))))))))
  (jssCons (jIf (jBc op_gt (spI fun _ _ _ => .bl _) (jSlot 2) (JE.o (jItemN (uu hr) (jSlot 3) (JE.o (jTup (jaCons jInt (jaCons (jTup jaNil) jaNil))))))) (jssOne (jRet (jTup (jaCons jStr jaNil)))) jssNil)
  (jssOne (jRet jNon))))))))))))⟩
theorem sc_law : FnScope [("_law_script" : Str), ("_law_k" : Str), ("_law_state_here" : Str), ("_law_values_here" : Str), ("_law_room" : Str), ("_law_deeds_here" : Str), ("_law_sizes_here" : Str), ("_law_keys_here" : Str), ("_law_least" : Str), ("_law_total" : Str), ("_law_told" : Str), ("_law_own" : Str), ("_law_table" : Str), ("_law_key" : Str), ("_law_due_here" : Str), ("_law_passed" : Str)] [("_law_script" : Str)] (defScope s_law) := ⟨rfl, rfl, rfl, by decide +kernel, rfl, by decide +kernel, by decide +kernel⟩
theorem ok_law {f : Addr} {fd : FuncData} (F : Fun K ("law" : Str) ("law" : Str) s_law f fd) (n_range : mg ("range" : Str) = none) (n_len : mg ("len" : Str) = none) (g__law_state : GF P w K mg base kap ("_law_state" : Str) 1 2 none m__law_state []) (g__law_values : GF P w K mg base kap ("_law_values" : Str) 2 2 (some 0) m__law_values []) (g__law_make : GF P w K mg base kap ("_law_make" : Str) 5 1 none m__law_make []) (g__law_deeds : GF P w K mg base kap ("_law_deeds" : Str) 2 3 (some 0) m__law_deeds []) (g__law_draw : GF P w K mg base kap ("_law_draw" : Str) 1 2 (some 0) m__law_draw []) (g__law_sizes : GF P w K mg base kap ("_law_sizes" : Str) 1 1 none m__law_sizes []) (g__law_keys : GF P w K mg base kap ("_law_keys" : Str) 2 2 none m__law_keys []) (g_least_total : GF P w K mg base kap ("least_total" : Str) 7 2 none m_least_total []) (n_list : mg ("list" : Str) = none) (g_plan_certificate : GF P w K mg base kap ("plan_certificate" : Str) 7 2 none m_plan_certificate []) (g__law_spoil : GF P w K mg base kap ("_law_spoil" : Str) 2 3 (some 0) m__law_spoil []) (g__law_due : GF P w K mg base kap ("_law_due" : Str) 3 5 none m__law_due []) (n_dict : mg ("dict" : Str) = none) (g__law_same : GF P w K mg base kap ("_law_same" : Str) 1 2 none m__law_same []) (g_plan_fault : GF P w K mg base kap ("plan_fault" : Str) 6 4 none m_plan_fault []) :
  FnG P w K mg base (L2.CX P w) 8 f fd [("_law_script" : Str)] (spD K kap 1 none m_law) :=
  DL.Fun.dl F (N := [("_law_script" : Str), ("_law_k" : Str), ("_law_state_here" : Str), ("_law_values_here" : Str), ("_law_room" : Str), ("_law_deeds_here" : Str), ("_law_sizes_here" : Str), ("_law_keys_here" : Str), ("_law_least" : Str), ("_law_total" : Str), ("_law_told" : Str), ("_law_own" : Str), ("_law_table" : Str), ("_law_key" : Str), ("_law_due_here" : Str), ("_law_passed" : Str)]) (n := 1) (nl := 15) (e := e_law) sc_law rfl rfl fun cdv A outer s H E hr tk po => ⟨_, (jssCons (jFor po (jiRng1 n_range (jAdd (JE.o jInt) (JE.o (jCB call_lenA sp_len n_len bt_len (josCons (JE.o (jSlA (jSlot 0) jNoP (jPart jInt))) josNil))))) (jgName 1 sc_law.nd) (jssPost [1, 2, 3, 4, 5, 6, 7, 8, 9, 10, 11, 12, 13, 14, 15] (jssCons (jSetF 2 sc_law.nd (gCallF g__law_state (hr.mono (by decide)) tk (jcVal (jVar 0) (jcVal (jVar 1) jcNil))))
   (jssCons (jSet 3 sc_law.nd (gCall g__law_values (hr.mono (by decide)) tk (jcSlot 2 (jcVal jInt jcNil))))
   (jssCons (jSet 4 sc_law.nd (gCall g__law_make (hr.mono (by decide)) tk (jcVal (jVar 3) jcNil)))
   (jssCons (jSet 5 sc_law.nd (gCall g__law_deeds (hr.mono (by decide)) tk (jcSlot 2 (jcVal (jVar 3) (jcVal (gCall g__law_draw (hr.mono (by decide)) tk (jcSlot 2 (jcVal jInt jcNil))) jcNil)))))
   (jssCons (jSet 6 sc_law.nd (gCall g__law_sizes (hr.mono (by decide)) tk (jcVal (jVar 5) jcNil)))
   (jssCons (jSet 7 sc_law.nd (gCall g__law_keys (hr.mono (by decide)) tk (jcVal (jVar 3) (jcVal (jVar 6) jcNil))))
   (jssCons (jSet 8 sc_law.nd (gCall g_least_total (hr.mono (by decide)) tk (jcVal (jVar 4) (jcVal (JF.fz (jCTF call_list_of sf_list n_list bt_list (josCons (jSlot 5) josNil))) jcNil))))
   (jssCons (jSet 9 sc_law.nd (jAdd (jSlot 8) (JE.o (jItemN (uu hr) (JE.o (JF.fz (jLst (jaCons jInt (jaCons jInt (jaCons jInt (jaCons (jNeg (JE.o jInt)) (jaCons jInt (jaCons (jNeg (JE.o jInt)) jaNil))))))))) (JE.o (gCall g__law_draw (hr.mono (by decide)) tk (jcSlot 2 (jcVal jInt jcNil))))))))
   (jssCons (jSet 10 sc_law.nd (gCall g_plan_certificate (hr.mono (by decide)) tk (jcVal (jVar 4) (jcVal (JF.fz (jCTF call_list_of sf_list n_list bt_list (josCons (jSlot 5) josNil))) jcNil))))
   (jssCons (jSet 11 sc_law.nd (jCmp (op_eqD (uu hr)) sp_eq (JE.o (gCall g__law_draw (hr.mono (by decide)) tk (jcSlot 2 (jcVal jInt jcNil)))) (JE.o jInt)))
   (jssCons (jSetF 12 sc_law.nd (jDn0))
   (jssCons (jPre [1] (jFor po (jiSeqN (jVar 7)) (jgName 13 sc_law.nd) (jssPost [13] (jssCons (jSetN (uu hr) 12 (jItemN (uu hr) (jSlot 10) (jSlot 13)) (jVar 13))
    (jssOne (jIf (jTru (jSlot 11)) (jssOne (jSetN (uu hr) 12 (jSub (JE.o (jMul (JE.o (jSub (JE.o (jCB call_lenA sp_len n_len bt_len (josCons (jSlot 5) josNil))) (JE.o (jItemN (uu hr) (jSlot 13) (JE.o jInt))))) (JE.o (gCall g__law_draw (hr.mono (by decide)) tk (jcSlot 2 (jcVal jInt jcNil)))))) (JE.o (jFdiv (JE.o (gCall g__law_draw (hr.mono (by decide)) tk (jcSlot 2 (jcVal jInt jcNil)))) (JE.o jInt)))) (jVar 13))) jssNil))))))
   (jssCons (jSetF 12 sc_law.nd (gCallF g__law_spoil (hr.mono (by decide)) tk (jcSlot 2 (jcVal (jVar 7) (jcVal (jVar 12) jcNil)))))
   (jssCons (jSet 14 sc_law.nd (gCall g__law_due (hr.mono (by decide)) tk (jcVal (jVar 3) (jcVal (jVar 5) (jcVal (jVar 6) (jcVal (jVar 9) (jcVal (jVar 12) jcNil)))))))
   (jssCons (jIf (JW.pt (jwAnd (jBc op_isN sp_isN (jSlot 14) (JE.o jNon)) (jwAnd1 (jBc op_gt (spI fun _ _ _ => .bl _) (jSlot 9) (jSlot 8))))) (jssOne (jRet jBl)) jssNil)
   (jssCons (jSet 15 sc_law.nd (JF.fz (jCTF (call_dictN (uu hr)) sf_dictN n_dict bt_dict (josCons (jSlot 12) josNil))))
   (jssOne (jIf (JW.pt (jwOr (jtNot (jTru (JE.o (gCall g__law_same (hr.mono (by decide)) tk (jcVal (gCall g_plan_fault (hr.mono (by decide)) tk (jcVal (jVar 4) (jcVal (JF.fz (jCTF call_list_of sf_list n_list bt_list (josCons (jSlot 5) josNil))) (jcVal (jVar 9) (jcVal (jVar 15) jcNil))))) (jcVal (jVar 14) jcNil)))))) (jwOr1 (jBc (op_neD (uu hr)) sp_ne (JE.o (jCB call_lenNA sp_lenN n_len bt_len (josCons (jSlot 15) josNil))) (JE.o (jCB call_lenNA sp_lenN n_len bt_len (josCons (jSlot 12) josNil))))))) (jssOne (jRet jBl)) jssNil))))))))))))))))))))
  (jssOne (jRet jBl)))⟩
end
theorem all_mk {w : World} {K : PySem.W.Frag} {h : Heap} {mg : Str → Option Value} {fa : Addr} (X : K.In h) (G : h.Ns mainGlobals mg) (hfa : mg "law" = some (.ref fa))
  {C_LabelError : Addr} {C_BadRoom : Addr} {C_NoRoom : Addr} {C_NoSize : Addr} {C_BadDeed : Addr} {C_TooMany : Addr} {C_NoLevel : Addr} {C_NoHeights : Addr} {C_Room : Addr} {f__law_state : Addr} {od__law_state : Option Addr} {an__law_state : Option Addr} {sl__law_state : Array (Option Value)} {oc__law_state : Value} {kv__law_state : Value} {dc__law_state : Value} {pm__law_state : Value} {cd__law_state : Value} {ct__law_state : Value} {f__law_draw : Addr} {od__law_draw : Option Addr} {an__law_draw : Option Addr} {sl__law_draw : Array (Option Value)} {oc__law_draw : Value} {kv__law_draw : Value} {dc__law_draw : Value} {pm__law_draw : Value} {cd__law_draw : Value} {ct__law_draw : Value} {f__law_values : Addr} {od__law_values : Option Addr} {an__law_values : Option Addr} {sl__law_values : Array (Option Value)} {oc__law_values : Value} {kv__law_values : Value} {dc__law_values : Value} {pm__law_values : Value} {cd__law_values : Value} {ct__law_values : Value} {f_is_integer : Addr} {od_is_integer : Option Addr} {an_is_integer : Option Addr} {sl_is_integer : Array (Option Value)} {oc_is_integer : Value} {kv_is_integer : Value} {dc_is_integer : Value} {pm_is_integer : Value} {cd_is_integer : Value} {ct_is_integer : Value} {f_in_range : Addr} {od_in_range : Option Addr} {an_in_range : Option Addr} {sl_in_range : Array (Option Value)} {oc_in_range : Value} {kv_in_range : Value} {dc_in_range : Value} {pm_in_range : Value} {cd_in_range : Value} {ct_in_range : Value} {f_Room_init : Addr} {od_Room_init : Option Addr} {an_Room_init : Option Addr} {sl_Room_init : Array (Option Value)} {oc_Room_init : Value} {dc_Room_init : Value} {pm_Room_init : Value} {cd_Room_init : Value} {ct_Room_init : Value} {D_Room_init : Addr} {t_Room_init_change : Tok} {t_Room_init_step : Tok} {f__law_make : Addr} {od__law_make : Option Addr} {an__law_make : Option Addr} {sl__law_make : Array (Option Value)} {oc__law_make : Value} {kv__law_make : Value} {dc__law_make : Value} {pm__law_make : Value} {cd__law_make : Value} {ct__law_make : Value} {f__law_deeds : Addr} {od__law_deeds : Option Addr} {an__law_deeds : Option Addr} {sl__law_deeds : Array (Option Value)} {oc__law_deeds : Value} {kv__law_deeds : Value} {dc__law_deeds : Value} {pm__law_deeds : Value} {cd__law_deeds : Value} {ct__law_deeds : Value} {f__law_sizes : Addr} {od__law_sizes : Option Addr} {an__law_sizes : Option Addr} {sl__law_sizes : Array (Option Value)} {oc__law_sizes : Value} {kv__law_sizes : Value} {dc__law_sizes : Value} {pm__law_sizes : Value} {cd__law_sizes : Value} {ct__law_sizes : Value} {f__law_rows : Addr} {od__law_rows : Option Addr} {an__law_rows : Option Addr} {sl__law_rows : Array (Option Value)} {oc__law_rows : Value} {kv__law_rows : Value} {dc__law_rows : Value} {pm__law_rows : Value} {cd__law_rows : Value} {ct__law_rows : Value} {f__law_keys : Addr} {od__law_keys : Option Addr} {an__law_keys : Option Addr} {sl__law_keys : Array (Option Value)} {oc__law_keys : Value} {kv__law_keys : Value} {dc__law_keys : Value} {pm__law_keys : Value} {cd__law_keys : Value} {ct__law_keys : Value} {f_need_room : Addr} {od_need_room : Option Addr} {an_need_room : Option Addr} {sl_need_room : Array (Option Value)} {oc_need_room : Value} {kv_need_room : Value} {dc_need_room : Value} {pm_need_room : Value} {cd_need_room : Value} {ct_need_room : Value} {f_deed_fits : Addr} {od_deed_fits : Option Addr} {an_deed_fits : Option Addr} {sl_deed_fits : Array (Option Value)} {oc_deed_fits : Value} {kv_deed_fits : Value} {dc_deed_fits : Value} {pm_deed_fits : Value} {cd_deed_fits : Value} {ct_deed_fits : Value} {f_bad_deed_from : Addr} {od_bad_deed_from : Option Addr} {an_bad_deed_from : Option Addr} {sl_bad_deed_from : Array (Option Value)} {oc_bad_deed_from : Value} {kv_bad_deed_from : Value} {dc_bad_deed_from : Value} {pm_bad_deed_from : Value} {cd_bad_deed_from : Value} {ct_bad_deed_from : Value} {T_bad_deed_from : Addr} {o_bad_deed_from : Obj} {n_bad_deed_from : Nat} {q_bad_deed_from_0 : Tok} {f_need_deeds : Addr} {od_need_deeds : Option Addr} {an_need_deeds : Option Addr} {sl_need_deeds : Array (Option Value)} {oc_need_deeds : Value} {kv_need_deeds : Value} {dc_need_deeds : Value} {pm_need_deeds : Value} {cd_need_deeds : Value} {ct_need_deeds : Value} {T_need_deeds : Addr} {o_need_deeds : Obj} {n_need_deeds : Nat} {q_need_deeds_0 : Tok} {f_count_standings : Addr} {od_count_standings : Option Addr} {an_count_standings : Option Addr} {sl_count_standings : Array (Option Value)} {oc_count_standings : Value} {kv_count_standings : Value} {dc_count_standings : Value} {pm_count_standings : Value} {cd_count_standings : Value} {ct_count_standings : Value} {f_need_few : Addr} {od_need_few : Option Addr} {an_need_few : Option Addr} {sl_need_few : Array (Option Value)} {oc_need_few : Value} {kv_need_few : Value} {dc_need_few : Value} {pm_need_few : Value} {cd_need_few : Value} {ct_need_few : Value} {T_need_few : Addr} {o_need_few : Obj} {n_need_few : Nat} {q_need_few_0 : Tok} {f_need_ahead : Addr} {od_need_ahead : Option Addr} {an_need_ahead : Option Addr} {sl_need_ahead : Array (Option Value)} {oc_need_ahead : Value} {kv_need_ahead : Value} {dc_need_ahead : Value} {pm_need_ahead : Value} {cd_need_ahead : Value} {ct_need_ahead : Value} {f_sizes_of : Addr} {od_sizes_of : Option Addr} {an_sizes_of : Option Addr} {sl_sizes_of : Array (Option Value)} {oc_sizes_of : Value} {kv_sizes_of : Value} {dc_sizes_of : Value} {pm_sizes_of : Value} {cd_sizes_of : Value} {ct_sizes_of : Value} {f_tuples_of : Addr} {od_tuples_of : Option Addr} {an_tuples_of : Option Addr} {sl_tuples_of : Array (Option Value)} {oc_tuples_of : Value} {kv_tuples_of : Value} {dc_tuples_of : Value} {pm_tuples_of : Value} {cd_tuples_of : Value} {ct_tuples_of : Value} {f_standings : Addr} {od_standings : Option Addr} {an_standings : Option Addr} {sl_standings : Array (Option Value)} {oc_standings : Value} {kv_standings : Value} {dc_standings : Value} {pm_standings : Value} {cd_standings : Value} {ct_standings : Value} {T_standings : Addr} {o_standings : Obj} {n_standings : Nat} {f_move_price : Addr} {od_move_price : Option Addr} {an_move_price : Option Addr} {sl_move_price : Array (Option Value)} {oc_move_price : Value} {kv_move_price : Value} {dc_move_price : Value} {pm_move_price : Value} {cd_move_price : Value} {ct_move_price : Value} {f_paid_for : Addr} {od_paid_for : Option Addr} {an_paid_for : Option Addr} {sl_paid_for : Array (Option Value)} {oc_paid_for : Value} {kv_paid_for : Value} {dc_paid_for : Value} {pm_paid_for : Value} {cd_paid_for : Value} {ct_paid_for : Value} {f_without : Addr} {od_without : Option Addr} {an_without : Option Addr} {sl_without : Array (Option Value)} {oc_without : Value} {kv_without : Value} {dc_without : Value} {pm_without : Value} {cd_without : Value} {ct_without : Value} {f_after_all : Addr} {od_after_all : Option Addr} {an_after_all : Option Addr} {sl_after_all : Array (Option Value)} {oc_after_all : Value} {kv_after_all : Value} {dc_after_all : Value} {pm_after_all : Value} {cd_after_all : Value} {ct_after_all : Value} {f_cost_table : Addr} {od_cost_table : Option Addr} {an_cost_table : Option Addr} {sl_cost_table : Array (Option Value)} {oc_cost_table : Value} {kv_cost_table : Value} {dc_cost_table : Value} {pm_cost_table : Value} {cd_cost_table : Value} {ct_cost_table : Value} {f_least_total : Addr} {od_least_total : Option Addr} {an_least_total : Option Addr} {sl_least_total : Array (Option Value)} {oc_least_total : Value} {kv_least_total : Value} {dc_least_total : Value} {pm_least_total : Value} {cd_least_total : Value} {ct_least_total : Value} {f_plan_certificate : Addr} {od_plan_certificate : Option Addr} {an_plan_certificate : Option Addr} {sl_plan_certificate : Array (Option Value)} {oc_plan_certificate : Value} {kv_plan_certificate : Value} {dc_plan_certificate : Value} {pm_plan_certificate : Value} {cd_plan_certificate : Value} {ct_plan_certificate : Value} {f__law_spoil : Addr} {od__law_spoil : Option Addr} {an__law_spoil : Option Addr} {sl__law_spoil : Array (Option Value)} {oc__law_spoil : Value} {kv__law_spoil : Value} {dc__law_spoil : Value} {pm__law_spoil : Value} {cd__law_spoil : Value} {ct__law_spoil : Value} {f__law_without : Addr} {od__law_without : Option Addr} {an__law_without : Option Addr} {sl__law_without : Array (Option Value)} {oc__law_without : Value} {kv__law_without : Value} {dc__law_without : Value} {pm__law_without : Value} {cd__law_without : Value} {ct__law_without : Value} {f__law_after : Addr} {od__law_after : Option Addr} {an__law_after : Option Addr} {sl__law_after : Array (Option Value)} {oc__law_after : Value} {kv__law_after : Value} {dc__law_after : Value} {pm__law_after : Value} {cd__law_after : Value} {ct__law_after : Value} {f__law_whole : Addr} {od__law_whole : Option Addr} {an__law_whole : Option Addr} {sl__law_whole : Array (Option Value)} {oc__law_whole : Value} {kv__law_whole : Value} {dc__law_whole : Value} {pm__law_whole : Value} {cd__law_whole : Value} {ct__law_whole : Value} {f__law_price : Addr} {od__law_price : Option Addr} {an__law_price : Option Addr} {sl__law_price : Array (Option Value)} {oc__law_price : Value} {kv__law_price : Value} {dc__law_price : Value} {pm__law_price : Value} {cd__law_price : Value} {ct__law_price : Value} {f__law_paid : Addr} {od__law_paid : Option Addr} {an__law_paid : Option Addr} {sl__law_paid : Array (Option Value)} {oc__law_paid : Value} {kv__law_paid : Value} {dc__law_paid : Value} {pm__law_paid : Value} {cd__law_paid : Value} {ct__law_paid : Value} {f__law_due : Addr} {od__law_due : Option Addr} {an__law_due : Option Addr} {sl__law_due : Array (Option Value)} {oc__law_due : Value} {kv__law_due : Value} {dc__law_due : Value} {pm__law_due : Value} {cd__law_due : Value} {ct__law_due : Value} {f__law_same : Addr} {od__law_same : Option Addr} {an__law_same : Option Addr} {sl__law_same : Array (Option Value)} {oc__law_same : Value} {kv__law_same : Value} {dc__law_same : Value} {pm__law_same : Value} {cd__law_same : Value} {ct__law_same : Value} {f_need_dict : Addr} {od_need_dict : Option Addr} {an_need_dict : Option Addr} {sl_need_dict : Array (Option Value)} {oc_need_dict : Value} {kv_need_dict : Value} {dc_need_dict : Value} {pm_need_dict : Value} {cd_need_dict : Value} {ct_need_dict : Value} {f_key_fault : Addr} {od_key_fault : Option Addr} {an_key_fault : Option Addr} {sl_key_fault : Array (Option Value)} {oc_key_fault : Value} {kv_key_fault : Value} {dc_key_fault : Value} {pm_key_fault : Value} {cd_key_fault : Value} {ct_key_fault : Value} {f_plan_fault : Addr} {od_plan_fault : Option Addr} {an_plan_fault : Option Addr} {sl_plan_fault : Array (Option Value)} {oc_plan_fault : Value} {kv_plan_fault : Value} {dc_plan_fault : Value} {pm_plan_fault : Value} {cd_plan_fault : Value} {ct_plan_fault : Value} {f_law : Addr} {od_law : Option Addr} {an_law : Option Addr} {sl_law : Array (Option Value)} {oc_law : Value} {kv_law : Value} {dc_law : Value} {pm_law : Value} {cd_law : Value} {ct_law : Value} {u_MOST_LABELS : Tok} {u_MOST_PRICE : Tok} {u_MOST_AHEAD : Tok} {f_BadRoom_init : Addr} {da_BadRoom_init : Addr} {cc_BadRoom_init : Addr} {nm_BadRoom_init : Str} {q_BadRoom_init : Str} {N_BadRoom_init : Addr} {bs_BadRoom_init : List Value} {bm_BadRoom_init : List Value} {sn_BadRoom_init : List Str} {su_BadRoom_init : List Value} {ab_BadRoom_init : Bool} {co_BadRoom_init : Option Bool} {dd_BadRoom_init : Option Addr} {k0_BadRoom_init : Option Value} {k1_BadRoom_init : Option Value} {k2_BadRoom_init : Option Value} {k3_BadRoom_init : Option Value} {k5_BadRoom_init : Option Value} {od_BadRoom_init : Option Addr} {an_BadRoom_init : Option Addr} {sl_BadRoom_init : Array (Option Value)} {oc_BadRoom_init : Value} {dc_BadRoom_init : Value} {pm_BadRoom_init : Value} {ct_BadRoom_init : Value} {e1_BadRoom_init : Value} {e2_BadRoom_init : Option Addr} {e3_BadRoom_init : Array (Option Value)} {vs_BadRoom_init : Array Value} {fi_BadRoom_init : Str} {tf_BadRoom_init : Tok} {g1_BadRoom_init : Value} {g2_BadRoom_init : Option Addr} {g3_BadRoom_init : Array (Option Value)} {f_NoRoom_init : Addr} {da_NoRoom_init : Addr} {cc_NoRoom_init : Addr} {nm_NoRoom_init : Str} {q_NoRoom_init : Str} {N_NoRoom_init : Addr} {bs_NoRoom_init : List Value} {bm_NoRoom_init : List Value} {sn_NoRoom_init : List Str} {su_NoRoom_init : List Value} {ab_NoRoom_init : Bool} {co_NoRoom_init : Option Bool} {dd_NoRoom_init : Option Addr} {k0_NoRoom_init : Option Value} {k1_NoRoom_init : Option Value} {k2_NoRoom_init : Option Value} {k3_NoRoom_init : Option Value} {k5_NoRoom_init : Option Value} {od_NoRoom_init : Option Addr} {an_NoRoom_init : Option Addr} {sl_NoRoom_init : Array (Option Value)} {oc_NoRoom_init : Value} {dc_NoRoom_init : Value} {pm_NoRoom_init : Value} {ct_NoRoom_init : Value} {e1_NoRoom_init : Value} {e2_NoRoom_init : Option Addr} {e3_NoRoom_init : Array (Option Value)} {vs_NoRoom_init : Array Value} {fi_NoRoom_init : Str} {tf_NoRoom_init : Tok} {g1_NoRoom_init : Value} {g2_NoRoom_init : Option Addr} {g3_NoRoom_init : Array (Option Value)} {f_NoSize_init : Addr} {da_NoSize_init : Addr} {cc_NoSize_init : Addr} {nm_NoSize_init : Str} {q_NoSize_init : Str} {N_NoSize_init : Addr} {bs_NoSize_init : List Value} {bm_NoSize_init : List Value} {sn_NoSize_init : List Str} {su_NoSize_init : List Value} {ab_NoSize_init : Bool} {co_NoSize_init : Option Bool} {dd_NoSize_init : Option Addr} {k0_NoSize_init : Option Value} {k1_NoSize_init : Option Value} {k2_NoSize_init : Option Value} {k3_NoSize_init : Option Value} {k5_NoSize_init : Option Value} {od_NoSize_init : Option Addr} {an_NoSize_init : Option Addr} {sl_NoSize_init : Array (Option Value)} {oc_NoSize_init : Value} {dc_NoSize_init : Value} {pm_NoSize_init : Value} {ct_NoSize_init : Value} {e1_NoSize_init : Value} {e2_NoSize_init : Option Addr} {e3_NoSize_init : Array (Option Value)} {vs_NoSize_init : Array Value} {fi_NoSize_init : Str} {tf_NoSize_init : Tok} {g1_NoSize_init : Value} {g2_NoSize_init : Option Addr} {g3_NoSize_init : Array (Option Value)} {f_BadDeed_init : Addr} {da_BadDeed_init : Addr} {cc_BadDeed_init : Addr} {nm_BadDeed_init : Str} {q_BadDeed_init : Str} {N_BadDeed_init : Addr} {bs_BadDeed_init : List Value} {bm_BadDeed_init : List Value} {sn_BadDeed_init : List Str} {su_BadDeed_init : List Value} {ab_BadDeed_init : Bool} {co_BadDeed_init : Option Bool} {dd_BadDeed_init : Option Addr} {k0_BadDeed_init : Option Value} {k1_BadDeed_init : Option Value} {k2_BadDeed_init : Option Value} {k3_BadDeed_init : Option Value} {k5_BadDeed_init : Option Value} {od_BadDeed_init : Option Addr} {an_BadDeed_init : Option Addr} {sl_BadDeed_init : Array (Option Value)} {oc_BadDeed_init : Value} {dc_BadDeed_init : Value} {pm_BadDeed_init : Value} {ct_BadDeed_init : Value} {e1_BadDeed_init : Value} {e2_BadDeed_init : Option Addr} {e3_BadDeed_init : Array (Option Value)} {vs_BadDeed_init : Array Value} {fi_BadDeed_init : Str} {tf_BadDeed_init : Tok} {g1_BadDeed_init : Value} {g2_BadDeed_init : Option Addr} {g3_BadDeed_init : Array (Option Value)} {f_TooMany_init : Addr} {da_TooMany_init : Addr} {cc_TooMany_init : Addr} {nm_TooMany_init : Str} {q_TooMany_init : Str} {N_TooMany_init : Addr} {bs_TooMany_init : List Value} {bm_TooMany_init : List Value} {sn_TooMany_init : List Str} {su_TooMany_init : List Value} {ab_TooMany_init : Bool} {co_TooMany_init : Option Bool} {dd_TooMany_init : Option Addr} {k0_TooMany_init : Option Value} {k1_TooMany_init : Option Value} {k2_TooMany_init : Option Value} {k3_TooMany_init : Option Value} {k5_TooMany_init : Option Value} {od_TooMany_init : Option Addr} {an_TooMany_init : Option Addr} {sl_TooMany_init : Array (Option Value)} {oc_TooMany_init : Value} {dc_TooMany_init : Value} {pm_TooMany_init : Value} {ct_TooMany_init : Value} {e1_TooMany_init : Value} {e2_TooMany_init : Option Addr} {e3_TooMany_init : Array (Option Value)} {vs_TooMany_init : Array Value} {fi_TooMany_init : Str} {tf_TooMany_init : Tok} {g1_TooMany_init : Value} {g2_TooMany_init : Option Addr} {g3_TooMany_init : Array (Option Value)} {f_NoLevel_init : Addr} {da_NoLevel_init : Addr} {cc_NoLevel_init : Addr} {nm_NoLevel_init : Str} {q_NoLevel_init : Str} {N_NoLevel_init : Addr} {bs_NoLevel_init : List Value} {bm_NoLevel_init : List Value} {sn_NoLevel_init : List Str} {su_NoLevel_init : List Value} {ab_NoLevel_init : Bool} {co_NoLevel_init : Option Bool} {dd_NoLevel_init : Option Addr} {k0_NoLevel_init : Option Value} {k1_NoLevel_init : Option Value} {k2_NoLevel_init : Option Value} {k3_NoLevel_init : Option Value} {k5_NoLevel_init : Option Value} {od_NoLevel_init : Option Addr} {an_NoLevel_init : Option Addr} {sl_NoLevel_init : Array (Option Value)} {oc_NoLevel_init : Value} {dc_NoLevel_init : Value} {pm_NoLevel_init : Value} {ct_NoLevel_init : Value} {e1_NoLevel_init : Value} {e2_NoLevel_init : Option Addr} {e3_NoLevel_init : Array (Option Value)} {vs_NoLevel_init : Array Value} {fi_NoLevel_init : Str} {tf_NoLevel_init : Tok} {g1_NoLevel_init : Value} {g2_NoLevel_init : Option Addr} {g3_NoLevel_init : Array (Option Value)} {f_NoHeights_init : Addr} {da_NoHeights_init : Addr} {cc_NoHeights_init : Addr} {nm_NoHeights_init : Str} {q_NoHeights_init : Str} {N_NoHeights_init : Addr} {bs_NoHeights_init : List Value} {bm_NoHeights_init : List Value} {sn_NoHeights_init : List Str} {su_NoHeights_init : List Value} {ab_NoHeights_init : Bool} {co_NoHeights_init : Option Bool} {dd_NoHeights_init : Option Addr} {k0_NoHeights_init : Option Value} {k1_NoHeights_init : Option Value} {k2_NoHeights_init : Option Value} {k3_NoHeights_init : Option Value} {k5_NoHeights_init : Option Value} {od_NoHeights_init : Option Addr} {an_NoHeights_init : Option Addr} {sl_NoHeights_init : Array (Option Value)} {oc_NoHeights_init : Value} {dc_NoHeights_init : Value} {pm_NoHeights_init : Value} {ct_NoHeights_init : Value} {e1_NoHeights_init : Value} {e2_NoHeights_init : Option Addr} {e3_NoHeights_init : Array (Option Value)} {vs_NoHeights_init : Array Value} {fi_NoHeights_init : Str} {tf_NoHeights_init : Tok} {g1_NoHeights_init : Value} {g2_NoHeights_init : Option Addr} {g3_NoHeights_init : Array (Option Value)}
  (ac_LabelError : PySem.W.nsIn K mainGlobals ("LabelError" : Str) = some (some (.ref C_LabelError)))
  (ac_BadRoom : PySem.W.nsIn K mainGlobals ("BadRoom" : Str) = some (some (.ref C_BadRoom)))
  (ac_NoRoom : PySem.W.nsIn K mainGlobals ("NoRoom" : Str) = some (some (.ref C_NoRoom)))
  (ac_NoSize : PySem.W.nsIn K mainGlobals ("NoSize" : Str) = some (some (.ref C_NoSize)))
  (ac_BadDeed : PySem.W.nsIn K mainGlobals ("BadDeed" : Str) = some (some (.ref C_BadDeed)))
  (ac_TooMany : PySem.W.nsIn K mainGlobals ("TooMany" : Str) = some (some (.ref C_TooMany)))
  (ac_NoLevel : PySem.W.nsIn K mainGlobals ("NoLevel" : Str) = some (some (.ref C_NoLevel)))
  (ac_NoHeights : PySem.W.nsIn K mainGlobals ("NoHeights" : Str) = some (some (.ref C_NoHeights)))
  (ac_Room : PySem.W.nsIn K mainGlobals ("Room" : Str) = some (some (.ref C_Room)))
  (a__law_state : PySem.W.nsIn K mainGlobals ("_law_state" : Str) = some (some (.ref f__law_state)))
  (l__law_state : K.lookup f__law_state = some ⟨oc__law_state, od__law_state, .func (PySem.W.fnOf ("_law_state" : Str) ("_law_state" : Str) (defArgs s__law_state) (defBody s__law_state) (defScope s__law_state) .none kv__law_state dc__law_state pm__law_state an__law_state cd__law_state ct__law_state), sl__law_state⟩)
  (c__law_state : PySem.W.codeIn K cd__law_state ("_law_state" : Str) = true)
  (k__law_state : PySem.W.keepIn K (.ref f__law_state) = true)
  (a__law_draw : PySem.W.nsIn K mainGlobals ("_law_draw" : Str) = some (some (.ref f__law_draw)))
  (l__law_draw : K.lookup f__law_draw = some ⟨oc__law_draw, od__law_draw, .func (PySem.W.fnOf ("_law_draw" : Str) ("_law_draw" : Str) (defArgs s__law_draw) (defBody s__law_draw) (defScope s__law_draw) .none kv__law_draw dc__law_draw pm__law_draw an__law_draw cd__law_draw ct__law_draw), sl__law_draw⟩)
  (c__law_draw : PySem.W.codeIn K cd__law_draw ("_law_draw" : Str) = true)
  (k__law_draw : PySem.W.keepIn K (.ref f__law_draw) = true)
  (a__law_values : PySem.W.nsIn K mainGlobals ("_law_values" : Str) = some (some (.ref f__law_values)))
  (l__law_values : K.lookup f__law_values = some ⟨oc__law_values, od__law_values, .func (PySem.W.fnOf ("_law_values" : Str) ("_law_values" : Str) (defArgs s__law_values) (defBody s__law_values) (defScope s__law_values) .none kv__law_values dc__law_values pm__law_values an__law_values cd__law_values ct__law_values), sl__law_values⟩)
  (c__law_values : PySem.W.codeIn K cd__law_values ("_law_values" : Str) = true)
  (k__law_values : PySem.W.keepIn K (.ref f__law_values) = true)
  (a_is_integer : PySem.W.nsIn K mainGlobals ("is_integer" : Str) = some (some (.ref f_is_integer)))
  (l_is_integer : K.lookup f_is_integer = some ⟨oc_is_integer, od_is_integer, .func (PySem.W.fnOf ("is_integer" : Str) ("is_integer" : Str) (defArgs s_is_integer) (defBody s_is_integer) (defScope s_is_integer) .none kv_is_integer dc_is_integer pm_is_integer an_is_integer cd_is_integer ct_is_integer), sl_is_integer⟩)
  (c_is_integer : PySem.W.codeIn K cd_is_integer ("is_integer" : Str) = true)
  (k_is_integer : PySem.W.keepIn K (.ref f_is_integer) = true)
  (a_in_range : PySem.W.nsIn K mainGlobals ("in_range" : Str) = some (some (.ref f_in_range)))
  (l_in_range : K.lookup f_in_range = some ⟨oc_in_range, od_in_range, .func (PySem.W.fnOf ("in_range" : Str) ("in_range" : Str) (defArgs s_in_range) (defBody s_in_range) (defScope s_in_range) .none kv_in_range dc_in_range pm_in_range an_in_range cd_in_range ct_in_range), sl_in_range⟩)
  (c_in_range : PySem.W.codeIn K cd_in_range ("in_range" : Str) = true)
  (k_in_range : PySem.W.keepIn K (.ref f_in_range) = true)
  (a_Room_init : PySem.W.findIn K (.ref C_Room) ("__init__" : Str) = some (some (.ref f_Room_init)))
  (i_Room_init : PySem.W.isFn K (.ref f_Room_init) = true)
  (l_Room_init : K.lookup f_Room_init = some ⟨oc_Room_init, od_Room_init, .func (PySem.W.fnOf ("__init__" : Str) ("Room.__init__" : Str) (defArgs s_Room_init) (defBody s_Room_init) (defScope s_Room_init) .none (.ref D_Room_init) dc_Room_init pm_Room_init an_Room_init cd_Room_init ct_Room_init), sl_Room_init⟩)
  (c_Room_init : PySem.W.codeIn K cd_Room_init ("Room.__init__" : Str) = true)
  (k_Room_init : PySem.W.keepIn K (.ref f_Room_init) = true)
  (kd_Room_init_change : PySem.W.nsIn K D_Room_init ("change" : Str) = some (some (.int (1) t_Room_init_change)))
  (kd_Room_init_step : PySem.W.nsIn K D_Room_init ("step" : Str) = some (some (.int (0) t_Room_init_step)))
  (a__law_make : PySem.W.nsIn K mainGlobals ("_law_make" : Str) = some (some (.ref f__law_make)))
  (l__law_make : K.lookup f__law_make = some ⟨oc__law_make, od__law_make, .func (PySem.W.fnOf ("_law_make" : Str) ("_law_make" : Str) (defArgs s__law_make) (defBody s__law_make) (defScope s__law_make) .none kv__law_make dc__law_make pm__law_make an__law_make cd__law_make ct__law_make), sl__law_make⟩)
  (c__law_make : PySem.W.codeIn K cd__law_make ("_law_make" : Str) = true)
  (k__law_make : PySem.W.keepIn K (.ref f__law_make) = true)
  (a__law_deeds : PySem.W.nsIn K mainGlobals ("_law_deeds" : Str) = some (some (.ref f__law_deeds)))
  (l__law_deeds : K.lookup f__law_deeds = some ⟨oc__law_deeds, od__law_deeds, .func (PySem.W.fnOf ("_law_deeds" : Str) ("_law_deeds" : Str) (defArgs s__law_deeds) (defBody s__law_deeds) (defScope s__law_deeds) .none kv__law_deeds dc__law_deeds pm__law_deeds an__law_deeds cd__law_deeds ct__law_deeds), sl__law_deeds⟩)
  (c__law_deeds : PySem.W.codeIn K cd__law_deeds ("_law_deeds" : Str) = true)
  (k__law_deeds : PySem.W.keepIn K (.ref f__law_deeds) = true)
  (a__law_sizes : PySem.W.nsIn K mainGlobals ("_law_sizes" : Str) = some (some (.ref f__law_sizes)))
  (l__law_sizes : K.lookup f__law_sizes = some ⟨oc__law_sizes, od__law_sizes, .func (PySem.W.fnOf ("_law_sizes" : Str) ("_law_sizes" : Str) (defArgs s__law_sizes) (defBody s__law_sizes) (defScope s__law_sizes) .none kv__law_sizes dc__law_sizes pm__law_sizes an__law_sizes cd__law_sizes ct__law_sizes), sl__law_sizes⟩)
  (c__law_sizes : PySem.W.codeIn K cd__law_sizes ("_law_sizes" : Str) = true)
  (k__law_sizes : PySem.W.keepIn K (.ref f__law_sizes) = true)
  (a__law_rows : PySem.W.nsIn K mainGlobals ("_law_rows" : Str) = some (some (.ref f__law_rows)))
  (l__law_rows : K.lookup f__law_rows = some ⟨oc__law_rows, od__law_rows, .func (PySem.W.fnOf ("_law_rows" : Str) ("_law_rows" : Str) (defArgs s__law_rows) (defBody s__law_rows) (defScope s__law_rows) .none kv__law_rows dc__law_rows pm__law_rows an__law_rows cd__law_rows ct__law_rows), sl__law_rows⟩)
  (c__law_rows : PySem.W.codeIn K cd__law_rows ("_law_rows" : Str) = true)
  (k__law_rows : PySem.W.keepIn K (.ref f__law_rows) = true)
  (a__law_keys : PySem.W.nsIn K mainGlobals ("_law_keys" : Str) = some (some (.ref f__law_keys)))
  (l__law_keys : K.lookup f__law_keys = some ⟨oc__law_keys, od__law_keys, .func (PySem.W.fnOf ("_law_keys" : Str) ("_law_keys" : Str) (defArgs s__law_keys) (defBody s__law_keys) (defScope s__law_keys) .none kv__law_keys dc__law_keys pm__law_keys an__law_keys cd__law_keys ct__law_keys), sl__law_keys⟩)
  (c__law_keys : PySem.W.codeIn K cd__law_keys ("_law_keys" : Str) = true)
  (k__law_keys : PySem.W.keepIn K (.ref f__law_keys) = true)
  (a_need_room : PySem.W.nsIn K mainGlobals ("need_room" : Str) = some (some (.ref f_need_room)))
  (l_need_room : K.lookup f_need_room = some ⟨oc_need_room, od_need_room, .func (PySem.W.fnOf ("need_room" : Str) ("need_room" : Str) (defArgs s_need_room) (defBody s_need_room) (defScope s_need_room) .none kv_need_room dc_need_room pm_need_room an_need_room cd_need_room ct_need_room), sl_need_room⟩)
  (c_need_room : PySem.W.codeIn K cd_need_room ("need_room" : Str) = true)
  (k_need_room : PySem.W.keepIn K (.ref f_need_room) = true)
  (a_deed_fits : PySem.W.nsIn K mainGlobals ("deed_fits" : Str) = some (some (.ref f_deed_fits)))
  (l_deed_fits : K.lookup f_deed_fits = some ⟨oc_deed_fits, od_deed_fits, .func (PySem.W.fnOf ("deed_fits" : Str) ("deed_fits" : Str) (defArgs s_deed_fits) (defBody s_deed_fits) (defScope s_deed_fits) .none kv_deed_fits dc_deed_fits pm_deed_fits an_deed_fits cd_deed_fits ct_deed_fits), sl_deed_fits⟩)
  (c_deed_fits : PySem.W.codeIn K cd_deed_fits ("deed_fits" : Str) = true)
  (k_deed_fits : PySem.W.keepIn K (.ref f_deed_fits) = true)
  (a_bad_deed_from : PySem.W.nsIn K mainGlobals ("bad_deed_from" : Str) = some (some (.ref f_bad_deed_from)))
  (l_bad_deed_from : K.lookup f_bad_deed_from = some ⟨oc_bad_deed_from, od_bad_deed_from, .func (PySem.W.fnOf ("bad_deed_from" : Str) ("bad_deed_from" : Str) (defArgs s_bad_deed_from) (defBody s_bad_deed_from) (defScope s_bad_deed_from) (.ref T_bad_deed_from) kv_bad_deed_from dc_bad_deed_from pm_bad_deed_from an_bad_deed_from cd_bad_deed_from ct_bad_deed_from), sl_bad_deed_from⟩)
  (c_bad_deed_from : PySem.W.codeIn K cd_bad_deed_from ("bad_deed_from" : Str) = true)
  (k_bad_deed_from : PySem.W.keepIn K (.ref f_bad_deed_from) = true)
  (lt_bad_deed_from : K.lookup T_bad_deed_from = some o_bad_deed_from)
  (ld_bad_deed_from : o_bad_deed_from.data = .seq (([.int (2000) q_bad_deed_from_0] : List Value).toArray) n_bad_deed_from)
  (a_need_deeds : PySem.W.nsIn K mainGlobals ("need_deeds" : Str) = some (some (.ref f_need_deeds)))
  (l_need_deeds : K.lookup f_need_deeds = some ⟨oc_need_deeds, od_need_deeds, .func (PySem.W.fnOf ("need_deeds" : Str) ("need_deeds" : Str) (defArgs s_need_deeds) (defBody s_need_deeds) (defScope s_need_deeds) (.ref T_need_deeds) kv_need_deeds dc_need_deeds pm_need_deeds an_need_deeds cd_need_deeds ct_need_deeds), sl_need_deeds⟩)
  (c_need_deeds : PySem.W.codeIn K cd_need_deeds ("need_deeds" : Str) = true)
  (k_need_deeds : PySem.W.keepIn K (.ref f_need_deeds) = true)
  (lt_need_deeds : K.lookup T_need_deeds = some o_need_deeds)
  (ld_need_deeds : o_need_deeds.data = .seq (([.int (2000) q_need_deeds_0] : List Value).toArray) n_need_deeds)
  (a_count_standings : PySem.W.nsIn K mainGlobals ("count_standings" : Str) = some (some (.ref f_count_standings)))
  (l_count_standings : K.lookup f_count_standings = some ⟨oc_count_standings, od_count_standings, .func (PySem.W.fnOf ("count_standings" : Str) ("count_standings" : Str) (defArgs s_count_standings) (defBody s_count_standings) (defScope s_count_standings) .none kv_count_standings dc_count_standings pm_count_standings an_count_standings cd_count_standings ct_count_standings), sl_count_standings⟩)
  (c_count_standings : PySem.W.codeIn K cd_count_standings ("count_standings" : Str) = true)
  (k_count_standings : PySem.W.keepIn K (.ref f_count_standings) = true)
  (a_need_few : PySem.W.nsIn K mainGlobals ("need_few" : Str) = some (some (.ref f_need_few)))
  (l_need_few : K.lookup f_need_few = some ⟨oc_need_few, od_need_few, .func (PySem.W.fnOf ("need_few" : Str) ("need_few" : Str) (defArgs s_need_few) (defBody s_need_few) (defScope s_need_few) (.ref T_need_few) kv_need_few dc_need_few pm_need_few an_need_few cd_need_few ct_need_few), sl_need_few⟩)
  (c_need_few : PySem.W.codeIn K cd_need_few ("need_few" : Str) = true)
  (k_need_few : PySem.W.keepIn K (.ref f_need_few) = true)
  (lt_need_few : K.lookup T_need_few = some o_need_few)
  (ld_need_few : o_need_few.data = .seq (([.int (60) q_need_few_0] : List Value).toArray) n_need_few)
  (a_need_ahead : PySem.W.nsIn K mainGlobals ("need_ahead" : Str) = some (some (.ref f_need_ahead)))
  (l_need_ahead : K.lookup f_need_ahead = some ⟨oc_need_ahead, od_need_ahead, .func (PySem.W.fnOf ("need_ahead" : Str) ("need_ahead" : Str) (defArgs s_need_ahead) (defBody s_need_ahead) (defScope s_need_ahead) .none kv_need_ahead dc_need_ahead pm_need_ahead an_need_ahead cd_need_ahead ct_need_ahead), sl_need_ahead⟩)
  (c_need_ahead : PySem.W.codeIn K cd_need_ahead ("need_ahead" : Str) = true)
  (k_need_ahead : PySem.W.keepIn K (.ref f_need_ahead) = true)
  (a_sizes_of : PySem.W.nsIn K mainGlobals ("sizes_of" : Str) = some (some (.ref f_sizes_of)))
  (l_sizes_of : K.lookup f_sizes_of = some ⟨oc_sizes_of, od_sizes_of, .func (PySem.W.fnOf ("sizes_of" : Str) ("sizes_of" : Str) (defArgs s_sizes_of) (defBody s_sizes_of) (defScope s_sizes_of) .none kv_sizes_of dc_sizes_of pm_sizes_of an_sizes_of cd_sizes_of ct_sizes_of), sl_sizes_of⟩)
  (c_sizes_of : PySem.W.codeIn K cd_sizes_of ("sizes_of" : Str) = true)
  (k_sizes_of : PySem.W.keepIn K (.ref f_sizes_of) = true)
  (a_tuples_of : PySem.W.nsIn K mainGlobals ("tuples_of" : Str) = some (some (.ref f_tuples_of)))
  (l_tuples_of : K.lookup f_tuples_of = some ⟨oc_tuples_of, od_tuples_of, .func (PySem.W.fnOf ("tuples_of" : Str) ("tuples_of" : Str) (defArgs s_tuples_of) (defBody s_tuples_of) (defScope s_tuples_of) .none kv_tuples_of dc_tuples_of pm_tuples_of an_tuples_of cd_tuples_of ct_tuples_of), sl_tuples_of⟩)
  (c_tuples_of : PySem.W.codeIn K cd_tuples_of ("tuples_of" : Str) = true)
  (k_tuples_of : PySem.W.keepIn K (.ref f_tuples_of) = true)
  (a_standings : PySem.W.nsIn K mainGlobals ("standings" : Str) = some (some (.ref f_standings)))
  (l_standings : K.lookup f_standings = some ⟨oc_standings, od_standings, .func (PySem.W.fnOf ("standings" : Str) ("standings" : Str) (defArgs s_standings) (defBody s_standings) (defScope s_standings) (.ref T_standings) kv_standings dc_standings pm_standings an_standings cd_standings ct_standings), sl_standings⟩)
  (c_standings : PySem.W.codeIn K cd_standings ("standings" : Str) = true)
  (k_standings : PySem.W.keepIn K (.ref f_standings) = true)
  (lt_standings : K.lookup T_standings = some o_standings)
  (ld_standings : o_standings.data = .seq (([.none] : List Value).toArray) n_standings)
  (a_move_price : PySem.W.nsIn K mainGlobals ("move_price" : Str) = some (some (.ref f_move_price)))
  (l_move_price : K.lookup f_move_price = some ⟨oc_move_price, od_move_price, .func (PySem.W.fnOf ("move_price" : Str) ("move_price" : Str) (defArgs s_move_price) (defBody s_move_price) (defScope s_move_price) .none kv_move_price dc_move_price pm_move_price an_move_price cd_move_price ct_move_price), sl_move_price⟩)
  (c_move_price : PySem.W.codeIn K cd_move_price ("move_price" : Str) = true)
  (k_move_price : PySem.W.keepIn K (.ref f_move_price) = true)
  (a_paid_for : PySem.W.nsIn K mainGlobals ("paid_for" : Str) = some (some (.ref f_paid_for)))
  (l_paid_for : K.lookup f_paid_for = some ⟨oc_paid_for, od_paid_for, .func (PySem.W.fnOf ("paid_for" : Str) ("paid_for" : Str) (defArgs s_paid_for) (defBody s_paid_for) (defScope s_paid_for) .none kv_paid_for dc_paid_for pm_paid_for an_paid_for cd_paid_for ct_paid_for), sl_paid_for⟩)
  (c_paid_for : PySem.W.codeIn K cd_paid_for ("paid_for" : Str) = true)
  (k_paid_for : PySem.W.keepIn K (.ref f_paid_for) = true)
  (a_without : PySem.W.nsIn K mainGlobals ("without" : Str) = some (some (.ref f_without)))
  (l_without : K.lookup f_without = some ⟨oc_without, od_without, .func (PySem.W.fnOf ("without" : Str) ("without" : Str) (defArgs s_without) (defBody s_without) (defScope s_without) .none kv_without dc_without pm_without an_without cd_without ct_without), sl_without⟩)
  (c_without : PySem.W.codeIn K cd_without ("without" : Str) = true)
  (k_without : PySem.W.keepIn K (.ref f_without) = true)
  (a_after_all : PySem.W.nsIn K mainGlobals ("after_all" : Str) = some (some (.ref f_after_all)))
  (l_after_all : K.lookup f_after_all = some ⟨oc_after_all, od_after_all, .func (PySem.W.fnOf ("after_all" : Str) ("after_all" : Str) (defArgs s_after_all) (defBody s_after_all) (defScope s_after_all) .none kv_after_all dc_after_all pm_after_all an_after_all cd_after_all ct_after_all), sl_after_all⟩)
  (c_after_all : PySem.W.codeIn K cd_after_all ("after_all" : Str) = true)
  (k_after_all : PySem.W.keepIn K (.ref f_after_all) = true)
  (a_cost_table : PySem.W.nsIn K mainGlobals ("cost_table" : Str) = some (some (.ref f_cost_table)))
  (l_cost_table : K.lookup f_cost_table = some ⟨oc_cost_table, od_cost_table, .func (PySem.W.fnOf ("cost_table" : Str) ("cost_table" : Str) (defArgs s_cost_table) (defBody s_cost_table) (defScope s_cost_table) .none kv_cost_table dc_cost_table pm_cost_table an_cost_table cd_cost_table ct_cost_table), sl_cost_table⟩)
  (c_cost_table : PySem.W.codeIn K cd_cost_table ("cost_table" : Str) = true)
  (k_cost_table : PySem.W.keepIn K (.ref f_cost_table) = true)
  (a_least_total : PySem.W.nsIn K mainGlobals ("least_total" : Str) = some (some (.ref f_least_total)))
  (l_least_total : K.lookup f_least_total = some ⟨oc_least_total, od_least_total, .func (PySem.W.fnOf ("least_total" : Str) ("least_total" : Str) (defArgs s_least_total) (defBody s_least_total) (defScope s_least_total) .none kv_least_total dc_least_total pm_least_total an_least_total cd_least_total ct_least_total), sl_least_total⟩)
  (c_least_total : PySem.W.codeIn K cd_least_total ("least_total" : Str) = true)
  (k_least_total : PySem.W.keepIn K (.ref f_least_total) = true)
  (a_plan_certificate : PySem.W.nsIn K mainGlobals ("plan_certificate" : Str) = some (some (.ref f_plan_certificate)))
  (l_plan_certificate : K.lookup f_plan_certificate = some ⟨oc_plan_certificate, od_plan_certificate, .func (PySem.W.fnOf ("plan_certificate" : Str) ("plan_certificate" : Str) (defArgs s_plan_certificate) (defBody s_plan_certificate) (defScope s_plan_certificate) .none kv_plan_certificate dc_plan_certificate pm_plan_certificate an_plan_certificate cd_plan_certificate ct_plan_certificate), sl_plan_certificate⟩)
  (c_plan_certificate : PySem.W.codeIn K cd_plan_certificate ("plan_certificate" : Str) = true)
  (k_plan_certificate : PySem.W.keepIn K (.ref f_plan_certificate) = true)
  (a__law_spoil : PySem.W.nsIn K mainGlobals ("_law_spoil" : Str) = some (some (.ref f__law_spoil)))
  (l__law_spoil : K.lookup f__law_spoil = some ⟨oc__law_spoil, od__law_spoil, .func (PySem.W.fnOf ("_law_spoil" : Str) ("_law_spoil" : Str) (defArgs s__law_spoil) (defBody s__law_spoil) (defScope s__law_spoil) .none kv__law_spoil dc__law_spoil pm__law_spoil an__law_spoil cd__law_spoil ct__law_spoil), sl__law_spoil⟩)
  (c__law_spoil : PySem.W.codeIn K cd__law_spoil ("_law_spoil" : Str) = true)
  (k__law_spoil : PySem.W.keepIn K (.ref f__law_spoil) = true)
  (a__law_without : PySem.W.nsIn K mainGlobals ("_law_without" : Str) = some (some (.ref f__law_without)))
  (l__law_without : K.lookup f__law_without = some ⟨oc__law_without, od__law_without, .func (PySem.W.fnOf ("_law_without" : Str) ("_law_without" : Str) (defArgs s__law_without) (defBody s__law_without) (defScope s__law_without) .none kv__law_without dc__law_without pm__law_without an__law_without cd__law_without ct__law_without), sl__law_without⟩)
  (c__law_without : PySem.W.codeIn K cd__law_without ("_law_without" : Str) = true)
  (k__law_without : PySem.W.keepIn K (.ref f__law_without) = true)
  (a__law_after : PySem.W.nsIn K mainGlobals ("_law_after" : Str) = some (some (.ref f__law_after)))
  (l__law_after : K.lookup f__law_after = some ⟨oc__law_after, od__law_after, .func (PySem.W.fnOf ("_law_after" : Str) ("_law_after" : Str) (defArgs s__law_after) (defBody s__law_after) (defScope s__law_after) .none kv__law_after dc__law_after pm__law_after an__law_after cd__law_after ct__law_after), sl__law_after⟩)
  (c__law_after : PySem.W.codeIn K cd__law_after ("_law_after" : Str) = true)
  (k__law_after : PySem.W.keepIn K (.ref f__law_after) = true)
  (a__law_whole : PySem.W.nsIn K mainGlobals ("_law_whole" : Str) = some (some (.ref f__law_whole)))
  (l__law_whole : K.lookup f__law_whole = some ⟨oc__law_whole, od__law_whole, .func (PySem.W.fnOf ("_law_whole" : Str) ("_law_whole" : Str) (defArgs s__law_whole) (defBody s__law_whole) (defScope s__law_whole) .none kv__law_whole dc__law_whole pm__law_whole an__law_whole cd__law_whole ct__law_whole), sl__law_whole⟩)
  (c__law_whole : PySem.W.codeIn K cd__law_whole ("_law_whole" : Str) = true)
  (k__law_whole : PySem.W.keepIn K (.ref f__law_whole) = true)
  (a__law_price : PySem.W.nsIn K mainGlobals ("_law_price" : Str) = some (some (.ref f__law_price)))
  (l__law_price : K.lookup f__law_price = some ⟨oc__law_price, od__law_price, .func (PySem.W.fnOf ("_law_price" : Str) ("_law_price" : Str) (defArgs s__law_price) (defBody s__law_price) (defScope s__law_price) .none kv__law_price dc__law_price pm__law_price an__law_price cd__law_price ct__law_price), sl__law_price⟩)
  (c__law_price : PySem.W.codeIn K cd__law_price ("_law_price" : Str) = true)
  (k__law_price : PySem.W.keepIn K (.ref f__law_price) = true)
  (a__law_paid : PySem.W.nsIn K mainGlobals ("_law_paid" : Str) = some (some (.ref f__law_paid)))
  (l__law_paid : K.lookup f__law_paid = some ⟨oc__law_paid, od__law_paid, .func (PySem.W.fnOf ("_law_paid" : Str) ("_law_paid" : Str) (defArgs s__law_paid) (defBody s__law_paid) (defScope s__law_paid) .none kv__law_paid dc__law_paid pm__law_paid an__law_paid cd__law_paid ct__law_paid), sl__law_paid⟩)
  (c__law_paid : PySem.W.codeIn K cd__law_paid ("_law_paid" : Str) = true)
  (k__law_paid : PySem.W.keepIn K (.ref f__law_paid) = true)
  (a__law_due : PySem.W.nsIn K mainGlobals ("_law_due" : Str) = some (some (.ref f__law_due)))
  (l__law_due : K.lookup f__law_due = some ⟨oc__law_due, od__law_due, .func (PySem.W.fnOf ("_law_due" : Str) ("_law_due" : Str) (defArgs s__law_due) (defBody s__law_due) (defScope s__law_due) .none kv__law_due dc__law_due pm__law_due an__law_due cd__law_due ct__law_due), sl__law_due⟩)
  (c__law_due : PySem.W.codeIn K cd__law_due ("_law_due" : Str) = true)
  (k__law_due : PySem.W.keepIn K (.ref f__law_due) = true)
  (a__law_same : PySem.W.nsIn K mainGlobals ("_law_same" : Str) = some (some (.ref f__law_same)))
  (l__law_same : K.lookup f__law_same = some ⟨oc__law_same, od__law_same, .func (PySem.W.fnOf ("_law_same" : Str) ("_law_same" : Str) (defArgs s__law_same) (defBody s__law_same) (defScope s__law_same) .none kv__law_same dc__law_same pm__law_same an__law_same cd__law_same ct__law_same), sl__law_same⟩)
  (c__law_same : PySem.W.codeIn K cd__law_same ("_law_same" : Str) = true)
  (k__law_same : PySem.W.keepIn K (.ref f__law_same) = true)
  (a_need_dict : PySem.W.nsIn K mainGlobals ("need_dict" : Str) = some (some (.ref f_need_dict)))
  (l_need_dict : K.lookup f_need_dict = some ⟨oc_need_dict, od_need_dict, .func (PySem.W.fnOf ("need_dict" : Str) ("need_dict" : Str) (defArgs s_need_dict) (defBody s_need_dict) (defScope s_need_dict) .none kv_need_dict dc_need_dict pm_need_dict an_need_dict cd_need_dict ct_need_dict), sl_need_dict⟩)
  (c_need_dict : PySem.W.codeIn K cd_need_dict ("need_dict" : Str) = true)
  (k_need_dict : PySem.W.keepIn K (.ref f_need_dict) = true)
  (a_key_fault : PySem.W.nsIn K mainGlobals ("key_fault" : Str) = some (some (.ref f_key_fault)))
  (l_key_fault : K.lookup f_key_fault = some ⟨oc_key_fault, od_key_fault, .func (PySem.W.fnOf ("key_fault" : Str) ("key_fault" : Str) (defArgs s_key_fault) (defBody s_key_fault) (defScope s_key_fault) .none kv_key_fault dc_key_fault pm_key_fault an_key_fault cd_key_fault ct_key_fault), sl_key_fault⟩)
  (c_key_fault : PySem.W.codeIn K cd_key_fault ("key_fault" : Str) = true)
  (k_key_fault : PySem.W.keepIn K (.ref f_key_fault) = true)
  (a_plan_fault : PySem.W.nsIn K mainGlobals ("plan_fault" : Str) = some (some (.ref f_plan_fault)))
  (l_plan_fault : K.lookup f_plan_fault = some ⟨oc_plan_fault, od_plan_fault, .func (PySem.W.fnOf ("plan_fault" : Str) ("plan_fault" : Str) (defArgs s_plan_fault) (defBody s_plan_fault) (defScope s_plan_fault) .none kv_plan_fault dc_plan_fault pm_plan_fault an_plan_fault cd_plan_fault ct_plan_fault), sl_plan_fault⟩)
  (c_plan_fault : PySem.W.codeIn K cd_plan_fault ("plan_fault" : Str) = true)
  (k_plan_fault : PySem.W.keepIn K (.ref f_plan_fault) = true)
  (a_law : PySem.W.nsIn K mainGlobals ("law" : Str) = some (some (.ref f_law)))
  (l_law : K.lookup f_law = some ⟨oc_law, od_law, .func (PySem.W.fnOf ("law" : Str) ("law" : Str) (defArgs s_law) (defBody s_law) (defScope s_law) .none kv_law dc_law pm_law an_law cd_law ct_law), sl_law⟩)
  (c_law : PySem.W.codeIn K cd_law ("law" : Str) = true)
  (k_law : PySem.W.keepIn K (.ref f_law) = true)
  (pg_Room : PySem.W.plainGet K C_Room Str.empty = true)
  (hd_Room : PySem.W.hasDictIn K C_Room = true)
  (po_Room : PySem.W.plainOver K C_Room = true)
  (sa_Room : PySem.W.findIn K (.ref C_Room) "__setattr__" = some (some (.builtin "object.__setattr__")))
  (mk_Room : PySem.W.makesIn K C_Room = true)
  (kk_Room : PySem.W.keepIn K (.ref C_Room) = true)
  (z_len : PySem.W.nsIn K mainGlobals ("len" : Str) = some none)
  (z_abs : PySem.W.nsIn K mainGlobals ("abs" : Str) = some none)
  (z_int : PySem.W.nsIn K mainGlobals ("int" : Str) = some none)
  (z_isinstance : PySem.W.nsIn K mainGlobals ("isinstance" : Str) = some none)
  (z_bool : PySem.W.nsIn K mainGlobals ("bool" : Str) = some none)
  (zv_MOST_LABELS : PySem.W.nsIn K mainGlobals ("MOST_LABELS" : Str) = some (some (.int 8 u_MOST_LABELS)))
  (zv_MOST_PRICE : PySem.W.nsIn K mainGlobals ("MOST_PRICE" : Str) = some (some (.int 3 u_MOST_PRICE)))
  (na_Room_labels : PySem.W.findIn K (.ref C_Room) ("labels" : Str) = some none)
  (na_Room_most : PySem.W.findIn K (.ref C_Room) ("most" : Str) = some none)
  (na_Room_change : PySem.W.findIn K (.ref C_Room) ("change" : Str) = some none)
  (na_Room_step : PySem.W.findIn K (.ref C_Room) ("step" : Str) = some none)
  (z_range : PySem.W.nsIn K mainGlobals ("range" : Str) = some none)
  (z_tuple : PySem.W.nsIn K mainGlobals ("tuple" : Str) = some none)
  (z_str : PySem.W.nsIn K mainGlobals ("str" : Str) = some none)
  (z_list : PySem.W.nsIn K mainGlobals ("list" : Str) = some none)
  (z_enumerate : PySem.W.nsIn K mainGlobals ("enumerate" : Str) = some none)
  (zv_MOST_AHEAD : PySem.W.nsIn K mainGlobals ("MOST_AHEAD" : Str) = some (some (.int 300 u_MOST_AHEAD)))
  (z_reversed : PySem.W.nsIn K mainGlobals ("reversed" : Str) = some none)
  (z_min : PySem.W.nsIn K mainGlobals ("min" : Str) = some none)
  (z_dict : PySem.W.nsIn K mainGlobals ("dict" : Str) = some none)
  (ex_BadRoom : PySem.W.subIn K (.ref C_BadRoom) (.type "BaseException") = some true)
  (ty_BadRoom : PySem.W.typeIn K (.ref C_BadRoom) = some (.type "type"))
  (xh_BadRoom : PySem.W.hasDictIn K C_BadRoom = true)
  (ex_NoRoom : PySem.W.subIn K (.ref C_NoRoom) (.type "BaseException") = some true)
  (ty_NoRoom : PySem.W.typeIn K (.ref C_NoRoom) = some (.type "type"))
  (xh_NoRoom : PySem.W.hasDictIn K C_NoRoom = true)
  (ex_NoSize : PySem.W.subIn K (.ref C_NoSize) (.type "BaseException") = some true)
  (ty_NoSize : PySem.W.typeIn K (.ref C_NoSize) = some (.type "type"))
  (xh_NoSize : PySem.W.hasDictIn K C_NoSize = true)
  (ex_BadDeed : PySem.W.subIn K (.ref C_BadDeed) (.type "BaseException") = some true)
  (ty_BadDeed : PySem.W.typeIn K (.ref C_BadDeed) = some (.type "type"))
  (xh_BadDeed : PySem.W.hasDictIn K C_BadDeed = true)
  (ex_TooMany : PySem.W.subIn K (.ref C_TooMany) (.type "BaseException") = some true)
  (ty_TooMany : PySem.W.typeIn K (.ref C_TooMany) = some (.type "type"))
  (xh_TooMany : PySem.W.hasDictIn K C_TooMany = true)
  (ex_NoLevel : PySem.W.subIn K (.ref C_NoLevel) (.type "BaseException") = some true)
  (ty_NoLevel : PySem.W.typeIn K (.ref C_NoLevel) = some (.type "type"))
  (xh_NoLevel : PySem.W.hasDictIn K C_NoLevel = true)
  (ex_NoHeights : PySem.W.subIn K (.ref C_NoHeights) (.type "BaseException") = some true)
  (ty_NoHeights : PySem.W.typeIn K (.ref C_NoHeights) = some (.type "type"))
  (xh_NoHeights : PySem.W.hasDictIn K C_NoHeights = true)
  (xl_BadRoom : K.lookup C_BadRoom = some (excClassObj nm_BadRoom_init q_BadRoom_init C_BadRoom N_BadRoom_init bs_BadRoom_init bm_BadRoom_init true sn_BadRoom_init su_BadRoom_init ab_BadRoom_init co_BadRoom_init dd_BadRoom_init k0_BadRoom_init k1_BadRoom_init k2_BadRoom_init k3_BadRoom_init k5_BadRoom_init "ValueError.__new__"))
  (xr_BadRoom : PySem.HandSPX.refsVE bm_BadRoom_init = true)
  (xs_BadRoom : PySem.W.findIn K (.ref C_BadRoom) "__setattr__" = some (some (.builtin "object.__setattr__")))
  (xi_BadRoom : PySem.W.findIn K (.ref C_BadRoom) "__init__" = some (some (.ref f_BadRoom_init)))
  (xt_BadRoom : PySem.W.typeIn K (.ref f_BadRoom_init) = some (.type "function"))
  (xk_BadRoom : PySem.W.keepIn K (.ref C_BadRoom) = true)
  (xe_BadRoom : PySem.W.excInitIn K C_BadRoom DX.veTail "ValueError.__new__" = true)
  (xu_BadRoom : PySem.W.ks_superIn K C_BadRoom C_BadRoom "__init__" = some (some (.builtin "ValueError.__init__")))
  (xv_BadRoom : PySem.W.subIn K (.ref C_BadRoom) (.type "ValueError") = some true)
  (xm_BadRoom : PySem.W.mroIn K C_BadRoom (.ref C_BadRoom) = some true)
  (xp_BadRoom : PySem.W.findIn K (.ref C_BadRoom) ("part" : Str) = some none)
  (xc_BadRoom : K.lookup f_BadRoom_init = some ⟨oc_BadRoom_init, od_BadRoom_init, .func (PySem.W.ksFn "__init__" ("BadRoom.__init__" : Str) (defArgs s_BadRoom_init) (defBody s_BadRoom_init) (defScope s_BadRoom_init) .none .none dc_BadRoom_init pm_BadRoom_init an_BadRoom_init (.ref da_BadRoom_init) ct_BadRoom_init cc_BadRoom_init), sl_BadRoom_init⟩)
  (xd_BadRoom : PySem.W.codeIn K (.ref da_BadRoom_init) ("BadRoom.__init__" : Str) = true)
  (xo_BadRoom : K.lookup da_BadRoom_init = some ⟨e1_BadRoom_init, e2_BadRoom_init, .fields vs_BadRoom_init, e3_BadRoom_init⟩)
  (xq_BadRoom : vs_BadRoom_init[2]? = some (.str fi_BadRoom_init tf_BadRoom_init))
  (xw_BadRoom : ((pgm.main.file : Str) == fi_BadRoom_init) = true)
  (xz_BadRoom : K.lookup cc_BadRoom_init = some ⟨g1_BadRoom_init, g2_BadRoom_init, .cell (some (.ref C_BadRoom)), g3_BadRoom_init⟩)
  (z_super : PySem.W.nsIn K mainGlobals "super" = some none)
  (zt_any : PySem.W.nsIn K cStatics "thirdparty.any" = some none)
  (xl_NoRoom : K.lookup C_NoRoom = some (excClassObj nm_NoRoom_init q_NoRoom_init C_NoRoom N_NoRoom_init bs_NoRoom_init bm_NoRoom_init true sn_NoRoom_init su_NoRoom_init ab_NoRoom_init co_NoRoom_init dd_NoRoom_init k0_NoRoom_init k1_NoRoom_init k2_NoRoom_init k3_NoRoom_init k5_NoRoom_init "ValueError.__new__"))
  (xr_NoRoom : PySem.HandSPX.refsVE bm_NoRoom_init = true)
  (xs_NoRoom : PySem.W.findIn K (.ref C_NoRoom) "__setattr__" = some (some (.builtin "object.__setattr__")))
  (xi_NoRoom : PySem.W.findIn K (.ref C_NoRoom) "__init__" = some (some (.ref f_NoRoom_init)))
  (xt_NoRoom : PySem.W.typeIn K (.ref f_NoRoom_init) = some (.type "function"))
  (xk_NoRoom : PySem.W.keepIn K (.ref C_NoRoom) = true)
  (xe_NoRoom : PySem.W.excInitIn K C_NoRoom DX.veTail "ValueError.__new__" = true)
  (xu_NoRoom : PySem.W.ks_superIn K C_NoRoom C_NoRoom "__init__" = some (some (.builtin "ValueError.__init__")))
  (xv_NoRoom : PySem.W.subIn K (.ref C_NoRoom) (.type "ValueError") = some true)
  (xm_NoRoom : PySem.W.mroIn K C_NoRoom (.ref C_NoRoom) = some true)
  (xp_NoRoom : PySem.W.findIn K (.ref C_NoRoom) ("thing" : Str) = some none)
  (xc_NoRoom : K.lookup f_NoRoom_init = some ⟨oc_NoRoom_init, od_NoRoom_init, .func (PySem.W.ksFn "__init__" ("NoRoom.__init__" : Str) (defArgs s_NoRoom_init) (defBody s_NoRoom_init) (defScope s_NoRoom_init) .none .none dc_NoRoom_init pm_NoRoom_init an_NoRoom_init (.ref da_NoRoom_init) ct_NoRoom_init cc_NoRoom_init), sl_NoRoom_init⟩)
  (xd_NoRoom : PySem.W.codeIn K (.ref da_NoRoom_init) ("NoRoom.__init__" : Str) = true)
  (xo_NoRoom : K.lookup da_NoRoom_init = some ⟨e1_NoRoom_init, e2_NoRoom_init, .fields vs_NoRoom_init, e3_NoRoom_init⟩)
  (xq_NoRoom : vs_NoRoom_init[2]? = some (.str fi_NoRoom_init tf_NoRoom_init))
  (xw_NoRoom : ((pgm.main.file : Str) == fi_NoRoom_init) = true)
  (xz_NoRoom : K.lookup cc_NoRoom_init = some ⟨g1_NoRoom_init, g2_NoRoom_init, .cell (some (.ref C_NoRoom)), g3_NoRoom_init⟩)
  (xl_NoSize : K.lookup C_NoSize = some (excClassObj nm_NoSize_init q_NoSize_init C_NoSize N_NoSize_init bs_NoSize_init bm_NoSize_init true sn_NoSize_init su_NoSize_init ab_NoSize_init co_NoSize_init dd_NoSize_init k0_NoSize_init k1_NoSize_init k2_NoSize_init k3_NoSize_init k5_NoSize_init "ValueError.__new__"))
  (xr_NoSize : PySem.HandSPX.refsVE bm_NoSize_init = true)
  (xs_NoSize : PySem.W.findIn K (.ref C_NoSize) "__setattr__" = some (some (.builtin "object.__setattr__")))
  (xi_NoSize : PySem.W.findIn K (.ref C_NoSize) "__init__" = some (some (.ref f_NoSize_init)))
  (xt_NoSize : PySem.W.typeIn K (.ref f_NoSize_init) = some (.type "function"))
  (xk_NoSize : PySem.W.keepIn K (.ref C_NoSize) = true)
  (xe_NoSize : PySem.W.excInitIn K C_NoSize DX.veTail "ValueError.__new__" = true)
  (xu_NoSize : PySem.W.ks_superIn K C_NoSize C_NoSize "__init__" = some (some (.builtin "ValueError.__init__")))
  (xv_NoSize : PySem.W.subIn K (.ref C_NoSize) (.type "ValueError") = some true)
  (xm_NoSize : PySem.W.mroIn K C_NoSize (.ref C_NoSize) = some true)
  (xp_NoSize : PySem.W.findIn K (.ref C_NoSize) ("size" : Str) = some none)
  (xc_NoSize : K.lookup f_NoSize_init = some ⟨oc_NoSize_init, od_NoSize_init, .func (PySem.W.ksFn "__init__" ("NoSize.__init__" : Str) (defArgs s_NoSize_init) (defBody s_NoSize_init) (defScope s_NoSize_init) .none .none dc_NoSize_init pm_NoSize_init an_NoSize_init (.ref da_NoSize_init) ct_NoSize_init cc_NoSize_init), sl_NoSize_init⟩)
  (xd_NoSize : PySem.W.codeIn K (.ref da_NoSize_init) ("NoSize.__init__" : Str) = true)
  (xo_NoSize : K.lookup da_NoSize_init = some ⟨e1_NoSize_init, e2_NoSize_init, .fields vs_NoSize_init, e3_NoSize_init⟩)
  (xq_NoSize : vs_NoSize_init[2]? = some (.str fi_NoSize_init tf_NoSize_init))
  (xw_NoSize : ((pgm.main.file : Str) == fi_NoSize_init) = true)
  (xz_NoSize : K.lookup cc_NoSize_init = some ⟨g1_NoSize_init, g2_NoSize_init, .cell (some (.ref C_NoSize)), g3_NoSize_init⟩)
  (xl_BadDeed : K.lookup C_BadDeed = some (excClassObj nm_BadDeed_init q_BadDeed_init C_BadDeed N_BadDeed_init bs_BadDeed_init bm_BadDeed_init true sn_BadDeed_init su_BadDeed_init ab_BadDeed_init co_BadDeed_init dd_BadDeed_init k0_BadDeed_init k1_BadDeed_init k2_BadDeed_init k3_BadDeed_init k5_BadDeed_init "ValueError.__new__"))
  (xr_BadDeed : PySem.HandSPX.refsVE bm_BadDeed_init = true)
  (xs_BadDeed : PySem.W.findIn K (.ref C_BadDeed) "__setattr__" = some (some (.builtin "object.__setattr__")))
  (xi_BadDeed : PySem.W.findIn K (.ref C_BadDeed) "__init__" = some (some (.ref f_BadDeed_init)))
  (xt_BadDeed : PySem.W.typeIn K (.ref f_BadDeed_init) = some (.type "function"))
  (xk_BadDeed : PySem.W.keepIn K (.ref C_BadDeed) = true)
  (xe_BadDeed : PySem.W.excInitIn K C_BadDeed DX.veTail "ValueError.__new__" = true)
  (xu_BadDeed : PySem.W.ks_superIn K C_BadDeed C_BadDeed "__init__" = some (some (.builtin "ValueError.__init__")))
  (xv_BadDeed : PySem.W.subIn K (.ref C_BadDeed) (.type "ValueError") = some true)
  (xm_BadDeed : PySem.W.mroIn K C_BadDeed (.ref C_BadDeed) = some true)
  (xp_BadDeed : PySem.W.findIn K (.ref C_BadDeed) ("index" : Str) = some none)
  (xc_BadDeed : K.lookup f_BadDeed_init = some ⟨oc_BadDeed_init, od_BadDeed_init, .func (PySem.W.ksFn "__init__" ("BadDeed.__init__" : Str) (defArgs s_BadDeed_init) (defBody s_BadDeed_init) (defScope s_BadDeed_init) .none .none dc_BadDeed_init pm_BadDeed_init an_BadDeed_init (.ref da_BadDeed_init) ct_BadDeed_init cc_BadDeed_init), sl_BadDeed_init⟩)
  (xd_BadDeed : PySem.W.codeIn K (.ref da_BadDeed_init) ("BadDeed.__init__" : Str) = true)
  (xo_BadDeed : K.lookup da_BadDeed_init = some ⟨e1_BadDeed_init, e2_BadDeed_init, .fields vs_BadDeed_init, e3_BadDeed_init⟩)
  (xq_BadDeed : vs_BadDeed_init[2]? = some (.str fi_BadDeed_init tf_BadDeed_init))
  (xw_BadDeed : ((pgm.main.file : Str) == fi_BadDeed_init) = true)
  (xz_BadDeed : K.lookup cc_BadDeed_init = some ⟨g1_BadDeed_init, g2_BadDeed_init, .cell (some (.ref C_BadDeed)), g3_BadDeed_init⟩)
  (xl_TooMany : K.lookup C_TooMany = some (excClassObj nm_TooMany_init q_TooMany_init C_TooMany N_TooMany_init bs_TooMany_init bm_TooMany_init true sn_TooMany_init su_TooMany_init ab_TooMany_init co_TooMany_init dd_TooMany_init k0_TooMany_init k1_TooMany_init k2_TooMany_init k3_TooMany_init k5_TooMany_init "ValueError.__new__"))
  (xr_TooMany : PySem.HandSPX.refsVE bm_TooMany_init = true)
  (xs_TooMany : PySem.W.findIn K (.ref C_TooMany) "__setattr__" = some (some (.builtin "object.__setattr__")))
  (xi_TooMany : PySem.W.findIn K (.ref C_TooMany) "__init__" = some (some (.ref f_TooMany_init)))
  (xt_TooMany : PySem.W.typeIn K (.ref f_TooMany_init) = some (.type "function"))
  (xk_TooMany : PySem.W.keepIn K (.ref C_TooMany) = true)
  (xe_TooMany : PySem.W.excInitIn K C_TooMany DX.veTail "ValueError.__new__" = true)
  (xu_TooMany : PySem.W.ks_superIn K C_TooMany C_TooMany "__init__" = some (some (.builtin "ValueError.__init__")))
  (xv_TooMany : PySem.W.subIn K (.ref C_TooMany) (.type "ValueError") = some true)
  (xm_TooMany : PySem.W.mroIn K C_TooMany (.ref C_TooMany) = some true)
  (xp_TooMany : PySem.W.findIn K (.ref C_TooMany) ("limit" : Str) = some none)
  (xc_TooMany : K.lookup f_TooMany_init = some ⟨oc_TooMany_init, od_TooMany_init, .func (PySem.W.ksFn "__init__" ("TooMany.__init__" : Str) (defArgs s_TooMany_init) (defBody s_TooMany_init) (defScope s_TooMany_init) .none .none dc_TooMany_init pm_TooMany_init an_TooMany_init (.ref da_TooMany_init) ct_TooMany_init cc_TooMany_init), sl_TooMany_init⟩)
  (xd_TooMany : PySem.W.codeIn K (.ref da_TooMany_init) ("TooMany.__init__" : Str) = true)
  (xo_TooMany : K.lookup da_TooMany_init = some ⟨e1_TooMany_init, e2_TooMany_init, .fields vs_TooMany_init, e3_TooMany_init⟩)
  (xq_TooMany : vs_TooMany_init[2]? = some (.str fi_TooMany_init tf_TooMany_init))
  (xw_TooMany : ((pgm.main.file : Str) == fi_TooMany_init) = true)
  (xz_TooMany : K.lookup cc_TooMany_init = some ⟨g1_TooMany_init, g2_TooMany_init, .cell (some (.ref C_TooMany)), g3_TooMany_init⟩)
  (xl_NoLevel : K.lookup C_NoLevel = some (excClassObj nm_NoLevel_init q_NoLevel_init C_NoLevel N_NoLevel_init bs_NoLevel_init bm_NoLevel_init true sn_NoLevel_init su_NoLevel_init ab_NoLevel_init co_NoLevel_init dd_NoLevel_init k0_NoLevel_init k1_NoLevel_init k2_NoLevel_init k3_NoLevel_init k5_NoLevel_init "ValueError.__new__"))
  (xr_NoLevel : PySem.HandSPX.refsVE bm_NoLevel_init = true)
  (xs_NoLevel : PySem.W.findIn K (.ref C_NoLevel) "__setattr__" = some (some (.builtin "object.__setattr__")))
  (xi_NoLevel : PySem.W.findIn K (.ref C_NoLevel) "__init__" = some (some (.ref f_NoLevel_init)))
  (xt_NoLevel : PySem.W.typeIn K (.ref f_NoLevel_init) = some (.type "function"))
  (xk_NoLevel : PySem.W.keepIn K (.ref C_NoLevel) = true)
  (xe_NoLevel : PySem.W.excInitIn K C_NoLevel DX.veTail "ValueError.__new__" = true)
  (xu_NoLevel : PySem.W.ks_superIn K C_NoLevel C_NoLevel "__init__" = some (some (.builtin "ValueError.__init__")))
  (xv_NoLevel : PySem.W.subIn K (.ref C_NoLevel) (.type "ValueError") = some true)
  (xm_NoLevel : PySem.W.mroIn K C_NoLevel (.ref C_NoLevel) = some true)
  (xp_NoLevel : PySem.W.findIn K (.ref C_NoLevel) ("thing" : Str) = some none)
  (xc_NoLevel : K.lookup f_NoLevel_init = some ⟨oc_NoLevel_init, od_NoLevel_init, .func (PySem.W.ksFn "__init__" ("NoLevel.__init__" : Str) (defArgs s_NoLevel_init) (defBody s_NoLevel_init) (defScope s_NoLevel_init) .none .none dc_NoLevel_init pm_NoLevel_init an_NoLevel_init (.ref da_NoLevel_init) ct_NoLevel_init cc_NoLevel_init), sl_NoLevel_init⟩)
  (xd_NoLevel : PySem.W.codeIn K (.ref da_NoLevel_init) ("NoLevel.__init__" : Str) = true)
  (xo_NoLevel : K.lookup da_NoLevel_init = some ⟨e1_NoLevel_init, e2_NoLevel_init, .fields vs_NoLevel_init, e3_NoLevel_init⟩)
  (xq_NoLevel : vs_NoLevel_init[2]? = some (.str fi_NoLevel_init tf_NoLevel_init))
  (xw_NoLevel : ((pgm.main.file : Str) == fi_NoLevel_init) = true)
  (xz_NoLevel : K.lookup cc_NoLevel_init = some ⟨g1_NoLevel_init, g2_NoLevel_init, .cell (some (.ref C_NoLevel)), g3_NoLevel_init⟩)
  (xl_NoHeights : K.lookup C_NoHeights = some (excClassObj nm_NoHeights_init q_NoHeights_init C_NoHeights N_NoHeights_init bs_NoHeights_init bm_NoHeights_init true sn_NoHeights_init su_NoHeights_init ab_NoHeights_init co_NoHeights_init dd_NoHeights_init k0_NoHeights_init k1_NoHeights_init k2_NoHeights_init k3_NoHeights_init k5_NoHeights_init "ValueError.__new__"))
  (xr_NoHeights : PySem.HandSPX.refsVE bm_NoHeights_init = true)
  (xs_NoHeights : PySem.W.findIn K (.ref C_NoHeights) "__setattr__" = some (some (.builtin "object.__setattr__")))
  (xi_NoHeights : PySem.W.findIn K (.ref C_NoHeights) "__init__" = some (some (.ref f_NoHeights_init)))
  (xt_NoHeights : PySem.W.typeIn K (.ref f_NoHeights_init) = some (.type "function"))
  (xk_NoHeights : PySem.W.keepIn K (.ref C_NoHeights) = true)
  (xe_NoHeights : PySem.W.excInitIn K C_NoHeights DX.veTail "ValueError.__new__" = true)
  (xu_NoHeights : PySem.W.ks_superIn K C_NoHeights C_NoHeights "__init__" = some (some (.builtin "ValueError.__init__")))
  (xv_NoHeights : PySem.W.subIn K (.ref C_NoHeights) (.type "ValueError") = some true)
  (xm_NoHeights : PySem.W.mroIn K C_NoHeights (.ref C_NoHeights) = some true)
  (xp_NoHeights : PySem.W.findIn K (.ref C_NoHeights) ("thing" : Str) = some none)
  (xc_NoHeights : K.lookup f_NoHeights_init = some ⟨oc_NoHeights_init, od_NoHeights_init, .func (PySem.W.ksFn "__init__" ("NoHeights.__init__" : Str) (defArgs s_NoHeights_init) (defBody s_NoHeights_init) (defScope s_NoHeights_init) .none .none dc_NoHeights_init pm_NoHeights_init an_NoHeights_init (.ref da_NoHeights_init) ct_NoHeights_init cc_NoHeights_init), sl_NoHeights_init⟩)
  (xd_NoHeights : PySem.W.codeIn K (.ref da_NoHeights_init) ("NoHeights.__init__" : Str) = true)
  (xo_NoHeights : K.lookup da_NoHeights_init = some ⟨e1_NoHeights_init, e2_NoHeights_init, .fields vs_NoHeights_init, e3_NoHeights_init⟩)
  (xq_NoHeights : vs_NoHeights_init[2]? = some (.str fi_NoHeights_init tf_NoHeights_init))
  (xw_NoHeights : ((pgm.main.file : Str) == fi_NoHeights_init) = true)
  (xz_NoHeights : K.lookup cc_NoHeights_init = some ⟨g1_NoHeights_init, g2_NoHeights_init, .cell (some (.ref C_NoHeights)), g3_NoHeights_init⟩)
  (qa_Room : PySem.W.findIn K (.ref C_Room) "__class__" = some (some (.builtin "object.__class__")))
  (qm_Room : PySem.W.mroIn K C_Room (.type "object") = some true)
  (qi_Room : PySem.W.isClsIn K C_Room = true)
  (qt_Room : PySem.W.typeIn K (.ref C_Room) = some (.type "type"))
  (qb_Room_bool : PySem.W.mroIn K C_Room (.type "bool") = some false)
  (qb_Room_int : PySem.W.mroIn K C_Room (.type "int") = some false)
  (qb_Room_str : PySem.W.mroIn K C_Room (.type "str") = some false)
  (qb_Room_tuple : PySem.W.mroIn K C_Room (.type "tuple") = some false)
  (qb_Room_list : PySem.W.mroIn K C_Room (.type "list") = some false)
  (qb_Room_dict : PySem.W.mroIn K C_Room (.type "dict") = some false)
  (qn : PySem.W.specialIn K (.builtin "object.__class__") "__get__" = some (some (.builtin "getset_descriptor.__get__")))
  (qk : PySem.W.takesIn K (.builtin "object.__class__") = some true) :
  ∃ (fd : FuncData), (∀ (s : Shared) (u : Value), BindsTo s fd ⟨[u], []⟩ [(("_law_script" : Str), u)]) ∧ ∀ base : Heap, K.In base → base.Ns mainGlobals mg → SmB base → ∃ kap : Kp, kap.tab = [] ∧ FnG pgm w K mg base (L2.CX pgm w) 8 fa fd [("_law_script" : Str)] (spD K kap 1 none m_law) := by
  have e := hfa.symm.trans (PySem.W.mg_of X G a_law)
  cases e
  refine ⟨PySem.W.fnOf "law" "law" (defArgs s_law) (defBody s_law) (defScope s_law) .none kv_law dc_law pm_law an_law cd_law ct_law, fun s v => .of_eq rfl, fun base _ _ hsmB => ⟨(kapL [C_LabelError, 0, 0, C_BadRoom, C_NoRoom, C_NoSize, 0, 0, 0, 0, C_BadDeed, 0, 0, 0, 0, C_TooMany, 0, 0, 0, 0, 0, C_NoLevel, C_NoHeights, 0, 0, C_Room, 0, 0, 0, 0, 0, 0]), rfl, ?_⟩⟩
  have hkk : KitK K (kapL [C_LabelError, 0, 0, C_BadRoom, C_NoRoom, C_NoSize, 0, 0, 0, 0, C_BadDeed, 0, 0, 0, 0, C_TooMany, 0, 0, 0, 0, 0, C_NoLevel, C_NoHeights, 0, 0, C_Room, 0, 0, 0, 0, 0, 0]) [25] := ⟨(more_in ⟨⟨pg_Room, hd_Room, po_Room, sa_Room⟩, qa_Room, qn, qk, qm_Room, qi_Room, qt_Room, (more_in qb_Room_bool (more_in qb_Room_int (more_in qb_Room_str (more_in qb_Room_tuple (more_in qb_Room_list (more_in qb_Room_dict none_in))))))⟩ none_in), (more_in (more_in (fun z => absurd rfl z) none_in) none_in)⟩
  have T_BadRoom : DX.XT pgm K C_BadRoom f_BadRoom_init da_BadRoom_init cc_BadRoom_init "__init__" ("BadRoom.__init__" : Str) (defArgs s_BadRoom_init) (defBody s_BadRoom_init) (defScope s_BadRoom_init) ("part" : Str) := { cls := ⟨_, _, _, _, _, _, _, _, _, _, _, _, _, _, _, xl_BadRoom, xr_BadRoom⟩, sa := xs_BadRoom, iC := xi_BadRoom, tC := xt_BadRoom, kC := xk_BadRoom, exC := ex_BadRoom, tyC := ty_BadRoom, ei := xe_BadRoom, sI := xu_BadRoom, ve := xv_BadRoom, mC := xm_BadRoom, any := zt_any, nos := z_super, noN := xp_BadRoom, fn := ⟨_, _, _, _, _, _, _, xc_BadRoom, xd_BadRoom⟩, cdo := ⟨_, _, _, _, _, _, xo_BadRoom, xq_BadRoom, xw_BadRoom⟩, cel := ⟨_, _, _, xz_BadRoom⟩, top := rfl }
  have hx_BadRoom : GX2 pgm w K mg (kapL [C_LabelError, 0, 0, C_BadRoom, C_NoRoom, C_NoSize, 0, 0, 0, 0, C_BadDeed, 0, 0, 0, 0, C_TooMany, 0, 0, 0, 0, 0, C_NoLevel, C_NoHeights, 0, 0, C_Room, 0, 0, 0, 0, 0, 0]) ("BadRoom" : Str) 3 ("part" : Str) okStr := ⟨C_BadRoom, rfl, DX.x2_cat T_BadRoom (by decide) rfl rfl rfl rfl rfl rfl rfl (by decide +kernel) (by decide) (by decide) rfl rfl (fun _ _ _ _ _ _ _ _ => .of_eq rfl) (fun _ => rfl) (fun _ => rfl) (fun _ => rfl) (fun _ => rfl), PySem.W.mg_of X G ac_BadRoom⟩
  have T_NoRoom : DX.XT pgm K C_NoRoom f_NoRoom_init da_NoRoom_init cc_NoRoom_init "__init__" ("NoRoom.__init__" : Str) (defArgs s_NoRoom_init) (defBody s_NoRoom_init) (defScope s_NoRoom_init) ("thing" : Str) := { cls := ⟨_, _, _, _, _, _, _, _, _, _, _, _, _, _, _, xl_NoRoom, xr_NoRoom⟩, sa := xs_NoRoom, iC := xi_NoRoom, tC := xt_NoRoom, kC := xk_NoRoom, exC := ex_NoRoom, tyC := ty_NoRoom, ei := xe_NoRoom, sI := xu_NoRoom, ve := xv_NoRoom, mC := xm_NoRoom, any := zt_any, nos := z_super, noN := xp_NoRoom, fn := ⟨_, _, _, _, _, _, _, xc_NoRoom, xd_NoRoom⟩, cdo := ⟨_, _, _, _, _, _, xo_NoRoom, xq_NoRoom, xw_NoRoom⟩, cel := ⟨_, _, _, xz_NoRoom⟩, top := rfl }
  have hx_NoRoom : GX2 pgm w K mg (kapL [C_LabelError, 0, 0, C_BadRoom, C_NoRoom, C_NoSize, 0, 0, 0, 0, C_BadDeed, 0, 0, 0, 0, C_TooMany, 0, 0, 0, 0, 0, C_NoLevel, C_NoHeights, 0, 0, C_Room, 0, 0, 0, 0, 0, 0]) ("NoRoom" : Str) 4 ("thing" : Str) okAny := ⟨C_NoRoom, rfl, DX.x2_msg T_NoRoom rfl rfl rfl rfl rfl rfl rfl (by decide +kernel) (by decide) (by decide) rfl rfl (fun _ _ _ _ _ _ _ _ => .of_eq rfl) (fun _ => rfl) (fun _ => rfl) (fun _ => rfl) (fun _ => rfl), PySem.W.mg_of X G ac_NoRoom⟩
  have T_NoSize : DX.XT pgm K C_NoSize f_NoSize_init da_NoSize_init cc_NoSize_init "__init__" ("NoSize.__init__" : Str) (defArgs s_NoSize_init) (defBody s_NoSize_init) (defScope s_NoSize_init) ("size" : Str) := { cls := ⟨_, _, _, _, _, _, _, _, _, _, _, _, _, _, _, xl_NoSize, xr_NoSize⟩, sa := xs_NoSize, iC := xi_NoSize, tC := xt_NoSize, kC := xk_NoSize, exC := ex_NoSize, tyC := ty_NoSize, ei := xe_NoSize, sI := xu_NoSize, ve := xv_NoSize, mC := xm_NoSize, any := zt_any, nos := z_super, noN := xp_NoSize, fn := ⟨_, _, _, _, _, _, _, xc_NoSize, xd_NoSize⟩, cdo := ⟨_, _, _, _, _, _, xo_NoSize, xq_NoSize, xw_NoSize⟩, cel := ⟨_, _, _, xz_NoSize⟩, top := rfl }
  have hx_NoSize : GX2 pgm w K mg (kapL [C_LabelError, 0, 0, C_BadRoom, C_NoRoom, C_NoSize, 0, 0, 0, 0, C_BadDeed, 0, 0, 0, 0, C_TooMany, 0, 0, 0, 0, 0, C_NoLevel, C_NoHeights, 0, 0, C_Room, 0, 0, 0, 0, 0, 0]) ("NoSize" : Str) 5 ("size" : Str) okAny := ⟨C_NoSize, rfl, DX.x2_msg T_NoSize rfl rfl rfl rfl rfl rfl rfl (by decide +kernel) (by decide) (by decide) rfl rfl (fun _ _ _ _ _ _ _ _ => .of_eq rfl) (fun _ => rfl) (fun _ => rfl) (fun _ => rfl) (fun _ => rfl), PySem.W.mg_of X G ac_NoSize⟩
  have T_BadDeed : DX.XT pgm K C_BadDeed f_BadDeed_init da_BadDeed_init cc_BadDeed_init "__init__" ("BadDeed.__init__" : Str) (defArgs s_BadDeed_init) (defBody s_BadDeed_init) (defScope s_BadDeed_init) ("index" : Str) := { cls := ⟨_, _, _, _, _, _, _, _, _, _, _, _, _, _, _, xl_BadDeed, xr_BadDeed⟩, sa := xs_BadDeed, iC := xi_BadDeed, tC := xt_BadDeed, kC := xk_BadDeed, exC := ex_BadDeed, tyC := ty_BadDeed, ei := xe_BadDeed, sI := xu_BadDeed, ve := xv_BadDeed, mC := xm_BadDeed, any := zt_any, nos := z_super, noN := xp_BadDeed, fn := ⟨_, _, _, _, _, _, _, xc_BadDeed, xd_BadDeed⟩, cdo := ⟨_, _, _, _, _, _, xo_BadDeed, xq_BadDeed, xw_BadDeed⟩, cel := ⟨_, _, _, xz_BadDeed⟩, top := rfl }
  have hx_BadDeed : GX2 pgm w K mg (kapL [C_LabelError, 0, 0, C_BadRoom, C_NoRoom, C_NoSize, 0, 0, 0, 0, C_BadDeed, 0, 0, 0, 0, C_TooMany, 0, 0, 0, 0, 0, C_NoLevel, C_NoHeights, 0, 0, C_Room, 0, 0, 0, 0, 0, 0]) ("BadDeed" : Str) 10 ("index" : Str) okAny := ⟨C_BadDeed, rfl, DX.x2_msg T_BadDeed rfl rfl rfl rfl rfl rfl rfl (by decide +kernel) (by decide) (by decide) rfl rfl (fun _ _ _ _ _ _ _ _ => .of_eq rfl) (fun _ => rfl) (fun _ => rfl) (fun _ => rfl) (fun _ => rfl), PySem.W.mg_of X G ac_BadDeed⟩
  have T_TooMany : DX.XT pgm K C_TooMany f_TooMany_init da_TooMany_init cc_TooMany_init "__init__" ("TooMany.__init__" : Str) (defArgs s_TooMany_init) (defBody s_TooMany_init) (defScope s_TooMany_init) ("limit" : Str) := { cls := ⟨_, _, _, _, _, _, _, _, _, _, _, _, _, _, _, xl_TooMany, xr_TooMany⟩, sa := xs_TooMany, iC := xi_TooMany, tC := xt_TooMany, kC := xk_TooMany, exC := ex_TooMany, tyC := ty_TooMany, ei := xe_TooMany, sI := xu_TooMany, ve := xv_TooMany, mC := xm_TooMany, any := zt_any, nos := z_super, noN := xp_TooMany, fn := ⟨_, _, _, _, _, _, _, xc_TooMany, xd_TooMany⟩, cdo := ⟨_, _, _, _, _, _, xo_TooMany, xq_TooMany, xw_TooMany⟩, cel := ⟨_, _, _, xz_TooMany⟩, top := rfl }
  have hx_TooMany : GX2 pgm w K mg (kapL [C_LabelError, 0, 0, C_BadRoom, C_NoRoom, C_NoSize, 0, 0, 0, 0, C_BadDeed, 0, 0, 0, 0, C_TooMany, 0, 0, 0, 0, 0, C_NoLevel, C_NoHeights, 0, 0, C_Room, 0, 0, 0, 0, 0, 0]) ("TooMany" : Str) 15 ("limit" : Str) okAny := ⟨C_TooMany, rfl, DX.x2_msg T_TooMany rfl rfl rfl rfl rfl rfl rfl (by decide +kernel) (by decide) (by decide) rfl rfl (fun _ _ _ _ _ _ _ _ => .of_eq rfl) (fun _ => rfl) (fun _ => rfl) (fun _ => rfl) (fun _ => rfl), PySem.W.mg_of X G ac_TooMany⟩
  have T_NoLevel : DX.XT pgm K C_NoLevel f_NoLevel_init da_NoLevel_init cc_NoLevel_init "__init__" ("NoLevel.__init__" : Str) (defArgs s_NoLevel_init) (defBody s_NoLevel_init) (defScope s_NoLevel_init) ("thing" : Str) := { cls := ⟨_, _, _, _, _, _, _, _, _, _, _, _, _, _, _, xl_NoLevel, xr_NoLevel⟩, sa := xs_NoLevel, iC := xi_NoLevel, tC := xt_NoLevel, kC := xk_NoLevel, exC := ex_NoLevel, tyC := ty_NoLevel, ei := xe_NoLevel, sI := xu_NoLevel, ve := xv_NoLevel, mC := xm_NoLevel, any := zt_any, nos := z_super, noN := xp_NoLevel, fn := ⟨_, _, _, _, _, _, _, xc_NoLevel, xd_NoLevel⟩, cdo := ⟨_, _, _, _, _, _, xo_NoLevel, xq_NoLevel, xw_NoLevel⟩, cel := ⟨_, _, _, xz_NoLevel⟩, top := rfl }
  have hx_NoLevel : GX2 pgm w K mg (kapL [C_LabelError, 0, 0, C_BadRoom, C_NoRoom, C_NoSize, 0, 0, 0, 0, C_BadDeed, 0, 0, 0, 0, C_TooMany, 0, 0, 0, 0, 0, C_NoLevel, C_NoHeights, 0, 0, C_Room, 0, 0, 0, 0, 0, 0]) ("NoLevel" : Str) 21 ("thing" : Str) okAny := ⟨C_NoLevel, rfl, DX.x2_msg T_NoLevel rfl rfl rfl rfl rfl rfl rfl (by decide +kernel) (by decide) (by decide) rfl rfl (fun _ _ _ _ _ _ _ _ => .of_eq rfl) (fun _ => rfl) (fun _ => rfl) (fun _ => rfl) (fun _ => rfl), PySem.W.mg_of X G ac_NoLevel⟩
  have T_NoHeights : DX.XT pgm K C_NoHeights f_NoHeights_init da_NoHeights_init cc_NoHeights_init "__init__" ("NoHeights.__init__" : Str) (defArgs s_NoHeights_init) (defBody s_NoHeights_init) (defScope s_NoHeights_init) ("thing" : Str) := { cls := ⟨_, _, _, _, _, _, _, _, _, _, _, _, _, _, _, xl_NoHeights, xr_NoHeights⟩, sa := xs_NoHeights, iC := xi_NoHeights, tC := xt_NoHeights, kC := xk_NoHeights, exC := ex_NoHeights, tyC := ty_NoHeights, ei := xe_NoHeights, sI := xu_NoHeights, ve := xv_NoHeights, mC := xm_NoHeights, any := zt_any, nos := z_super, noN := xp_NoHeights, fn := ⟨_, _, _, _, _, _, _, xc_NoHeights, xd_NoHeights⟩, cdo := ⟨_, _, _, _, _, _, xo_NoHeights, xq_NoHeights, xw_NoHeights⟩, cel := ⟨_, _, _, xz_NoHeights⟩, top := rfl }
  have hx_NoHeights : GX2 pgm w K mg (kapL [C_LabelError, 0, 0, C_BadRoom, C_NoRoom, C_NoSize, 0, 0, 0, 0, C_BadDeed, 0, 0, 0, 0, C_TooMany, 0, 0, 0, 0, 0, C_NoLevel, C_NoHeights, 0, 0, C_Room, 0, 0, 0, 0, 0, 0]) ("NoHeights" : Str) 22 ("thing" : Str) okAny := ⟨C_NoHeights, rfl, DX.x2_msg T_NoHeights rfl rfl rfl rfl rfl rfl rfl (by decide +kernel) (by decide) (by decide) rfl rfl (fun _ _ _ _ _ _ _ _ => .of_eq rfl) (fun _ => rfl) (fun _ => rfl) (fun _ => rfl) (fun _ => rfl), PySem.W.mg_of X G ac_NoHeights⟩
  have F__law_state := fun_mk (st := s__law_state) l__law_state c__law_state k__law_state
  have O__law_state := ok__law_state (P := pgm) (w := w) (base := base) (mg := mg) (kap := (kapL [C_LabelError, 0, 0, C_BadRoom, C_NoRoom, C_NoSize, 0, 0, 0, 0, C_BadDeed, 0, 0, 0, 0, C_TooMany, 0, 0, 0, 0, 0, C_NoLevel, C_NoHeights, 0, 0, C_Room, 0, 0, 0, 0, 0, 0])) F__law_state (n_len := (PySem.W.mg_none_of X G z_len)) (n_abs := (PySem.W.mg_none_of X G z_abs))
  have b__law_state := F__law_state.binds (ps := [("_law_script" : Str), ("_law_k" : Str)]) fun _ _ _ _ _ _ us hl => match us, hl with | [_, _], _ => rfl
  have hg__law_state : GF pgm w K mg base (kapL [C_LabelError, 0, 0, C_BadRoom, C_NoRoom, C_NoSize, 0, 0, 0, 0, C_BadDeed, 0, 0, 0, 0, C_TooMany, 0, 0, 0, 0, 0, C_NoLevel, C_NoHeights, 0, 0, C_Room, 0, 0, 0, 0, 0, 0]) ("_law_state" : Str) 1 2 none m__law_state [] := ⟨.all O__law_state k__law_state b__law_state, PySem.W.mg_of X G a__law_state⟩
  have F__law_draw := fun_mk (st := s__law_draw) l__law_draw c__law_draw k__law_draw
  have O__law_draw := ok__law_draw (P := pgm) (w := w) (base := base) (mg := mg) (kap := (kapL [C_LabelError, 0, 0, C_BadRoom, C_NoRoom, C_NoSize, 0, 0, 0, 0, C_BadDeed, 0, 0, 0, 0, C_TooMany, 0, 0, 0, 0, 0, C_NoLevel, C_NoHeights, 0, 0, C_Room, 0, 0, 0, 0, 0, 0])) F__law_draw (n_int := (PySem.W.mg_none_of X G z_int))
  have b__law_draw := F__law_draw.binds (ps := [("_law_state_here" : Str), ("_law_many" : Str)]) fun _ _ _ _ _ _ us hl => match us, hl with | [_, _], _ => rfl
  have hg__law_draw : GF pgm w K mg base (kapL [C_LabelError, 0, 0, C_BadRoom, C_NoRoom, C_NoSize, 0, 0, 0, 0, C_BadDeed, 0, 0, 0, 0, C_TooMany, 0, 0, 0, 0, 0, C_NoLevel, C_NoHeights, 0, 0, C_Room, 0, 0, 0, 0, 0, 0]) ("_law_draw" : Str) 1 2 (some 0) m__law_draw [] := ⟨.all O__law_draw k__law_draw b__law_draw, PySem.W.mg_of X G a__law_draw⟩
  have F__law_values := fun_mk (st := s__law_values) l__law_values c__law_values k__law_values
  have O__law_values := ok__law_values (P := pgm) (w := w) (base := base) (mg := mg) (kap := (kapL [C_LabelError, 0, 0, C_BadRoom, C_NoRoom, C_NoSize, 0, 0, 0, 0, C_BadDeed, 0, 0, 0, 0, C_TooMany, 0, 0, 0, 0, 0, C_NoLevel, C_NoHeights, 0, 0, C_Room, 0, 0, 0, 0, 0, 0])) F__law_values (g__law_draw := hg__law_draw)
  have b__law_values := F__law_values.binds (ps := [("_law_state_here" : Str), ("_law_many" : Str)]) fun _ _ _ _ _ _ us hl => match us, hl with | [_, _], _ => rfl
  have hg__law_values : GF pgm w K mg base (kapL [C_LabelError, 0, 0, C_BadRoom, C_NoRoom, C_NoSize, 0, 0, 0, 0, C_BadDeed, 0, 0, 0, 0, C_TooMany, 0, 0, 0, 0, 0, C_NoLevel, C_NoHeights, 0, 0, C_Room, 0, 0, 0, 0, 0, 0]) ("_law_values" : Str) 2 2 (some 0) m__law_values [] := ⟨.all O__law_values k__law_values b__law_values, PySem.W.mg_of X G a__law_values⟩
  have F_is_integer := fun_mk (st := s_is_integer) l_is_integer c_is_integer k_is_integer
  have O_is_integer := ok_is_integer (P := pgm) (w := w) (base := base) (mg := mg) (kap := (kapL [C_LabelError, 0, 0, C_BadRoom, C_NoRoom, C_NoSize, 0, 0, 0, 0, C_BadDeed, 0, 0, 0, 0, C_TooMany, 0, 0, 0, 0, 0, C_NoLevel, C_NoHeights, 0, 0, C_Room, 0, 0, 0, 0, 0, 0])) F_is_integer (kk := hkk) (n_int := (PySem.W.mg_none_of X G z_int)) (n_isinstance := (PySem.W.mg_none_of X G z_isinstance)) (n_bool := (PySem.W.mg_none_of X G z_bool))
  have b_is_integer := F_is_integer.binds (ps := [("thing" : Str)]) fun _ _ _ _ _ _ us hl => match us, hl with | [_], _ => rfl
  have hg_is_integer : GF pgm w K mg base (kapL [C_LabelError, 0, 0, C_BadRoom, C_NoRoom, C_NoSize, 0, 0, 0, 0, C_BadDeed, 0, 0, 0, 0, C_TooMany, 0, 0, 0, 0, 0, C_NoLevel, C_NoHeights, 0, 0, C_Room, 0, 0, 0, 0, 0, 0]) ("is_integer" : Str) 1 1 none m_is_integer [] := ⟨.all O_is_integer k_is_integer b_is_integer, PySem.W.mg_of X G a_is_integer⟩
  have F_in_range := fun_mk (st := s_in_range) l_in_range c_in_range k_in_range
  have O_in_range := ok_in_range (P := pgm) (w := w) (base := base) (mg := mg) (kap := (kapL [C_LabelError, 0, 0, C_BadRoom, C_NoRoom, C_NoSize, 0, 0, 0, 0, C_BadDeed, 0, 0, 0, 0, C_TooMany, 0, 0, 0, 0, 0, C_NoLevel, C_NoHeights, 0, 0, C_Room, 0, 0, 0, 0, 0, 0])) F_in_range (g_is_integer := hg_is_integer)
  have b_in_range := F_in_range.binds (ps := [("value" : Str), ("low" : Str), ("high" : Str)]) fun _ _ _ _ _ _ us hl => match us, hl with | [_, _, _], _ => rfl
  have hg_in_range : GF pgm w K mg base (kapL [C_LabelError, 0, 0, C_BadRoom, C_NoRoom, C_NoSize, 0, 0, 0, 0, C_BadDeed, 0, 0, 0, 0, C_TooMany, 0, 0, 0, 0, 0, C_NoLevel, C_NoHeights, 0, 0, C_Room, 0, 0, 0, 0, 0, 0]) ("in_range" : Str) 2 3 none m_in_range [] := ⟨.all O_in_range k_in_range b_in_range, PySem.W.mg_of X G a_in_range⟩
  have F_Room_init : FunD K ("__init__" : Str) ("Room.__init__" : Str) (defArgs s_Room_init) (defBody s_Room_init) (defScope s_Room_init) [] [(("change" : Str), .int 1), (("step" : Str), .int 0)] f_Room_init _ := ⟨⟨_, _, _, _, _, _, _, _, _, _, rfl, l_Room_init, c_Room_init, .inl ⟨rfl, rfl⟩, .inr ⟨D_Room_init, rfl, (more_in ⟨_, kd_Room_init_change, ⟨_, rfl⟩⟩ (more_in ⟨_, kd_Room_init_step, ⟨_, rfl⟩⟩ none_in))⟩⟩, k_Room_init⟩
  have O_Room_init := ok_Room_init (P := pgm) (w := w) (base := base) (mg := mg) (kap := (kapL [C_LabelError, 0, 0, C_BadRoom, C_NoRoom, C_NoSize, 0, 0, 0, 0, C_BadDeed, 0, 0, 0, 0, C_TooMany, 0, 0, 0, 0, 0, C_NoLevel, C_NoHeights, 0, 0, C_Room, 0, 0, 0, 0, 0, 0])) F_Room_init (g_in_range := hg_in_range) (v_MOST_LABELS := (PySem.W.mg_of X G zv_MOST_LABELS)) (x_BadRoom := hx_BadRoom) (v_MOST_PRICE := (PySem.W.mg_of X G zv_MOST_PRICE)) (a_Room_labels := ⟨⟨pg_Room, hd_Room, po_Room, sa_Room⟩, na_Room_labels⟩) (a_Room_most := ⟨⟨pg_Room, hd_Room, po_Room, sa_Room⟩, na_Room_most⟩) (a_Room_change := ⟨⟨pg_Room, hd_Room, po_Room, sa_Room⟩, na_Room_change⟩) (a_Room_step := ⟨⟨pg_Room, hd_Room, po_Room, sa_Room⟩, na_Room_step⟩)
  obtain ⟨mv_Room_init_0, kb_Room_init_0⟩ := FunD.kbinds0 (ps := [("self" : Str), ("labels" : Str), ("most" : Str), ("change" : Str), ("step" : Str)]) F_Room_init 3 [("change" : Str), ("step" : Str)] [] (fun us mv ws => gpick [(0, 0), (0, 1), (0, 2), (2, 0), (2, 1)] us mv ws) (by simp) (by simp) (fun r1 r2 r3 => gpick_rel [(0, 0), (0, 1), (0, 2), (2, 0), (2, 1)] r1 r2 r3) (fun D doc pm an cdv ct us mv ws h1 h2 h3 => match us, h1, mv, h2, ws, h3 with | [_, _, _], _, [], _, [_, _], _ => rfl)
  have hmk_Room_k0 : GK pgm w K mg base (kapL [C_LabelError, 0, 0, C_BadRoom, C_NoRoom, C_NoSize, 0, 0, 0, 0, C_BadDeed, 0, 0, 0, 0, C_TooMany, 0, 0, 0, 0, 0, C_NoLevel, C_NoHeights, 0, 0, C_Room, 0, 0, 0, 0, 0, 0]) ("Room" : Str) 25 3 5 2 [("change" : Str), ("step" : Str)] m_Room_init ar_Room_k0 := ⟨C_Room, rfl, ⟨f_Room_init, _, _, _, _, O_Room_init, kb_Room_init_0, fun x vs zs h1 h2 => ⟨gpick [(0, 0), (0, 1), (2, 0), (2, 1)] vs [] zs, rfl, fun F ds fs r1 r2 => gpick_reps [(0, 0), (0, 1), (2, 0), (2, 1)] r1 .nil r2⟩⟩, ⟨mk_Room, a_Room_init, i_Room_init, kk_Room⟩, PySem.W.mg_of X G ac_Room⟩
  have F__law_make := fun_mk (st := s__law_make) l__law_make c__law_make k__law_make
  have O__law_make := ok__law_make (P := pgm) (w := w) (base := base) (mg := mg) (kap := (kapL [C_LabelError, 0, 0, C_BadRoom, C_NoRoom, C_NoSize, 0, 0, 0, 0, C_BadDeed, 0, 0, 0, 0, C_TooMany, 0, 0, 0, 0, 0, C_NoLevel, C_NoHeights, 0, 0, C_Room, 0, 0, 0, 0, 0, 0])) F__law_make (mk_Room_k0 := hmk_Room_k0)
  have b__law_make := F__law_make.binds (ps := [("_law_values_here" : Str)]) fun _ _ _ _ _ _ us hl => match us, hl with | [_], _ => rfl
  have hg__law_make : GF pgm w K mg base (kapL [C_LabelError, 0, 0, C_BadRoom, C_NoRoom, C_NoSize, 0, 0, 0, 0, C_BadDeed, 0, 0, 0, 0, C_TooMany, 0, 0, 0, 0, 0, C_NoLevel, C_NoHeights, 0, 0, C_Room, 0, 0, 0, 0, 0, 0]) ("_law_make" : Str) 5 1 none m__law_make [] := ⟨.all O__law_make k__law_make b__law_make, PySem.W.mg_of X G a__law_make⟩
  have F__law_deeds := fun_mk (st := s__law_deeds) l__law_deeds c__law_deeds k__law_deeds
  have O__law_deeds := ok__law_deeds (P := pgm) (w := w) (base := base) (mg := mg) (kap := (kapL [C_LabelError, 0, 0, C_BadRoom, C_NoRoom, C_NoSize, 0, 0, 0, 0, C_BadDeed, 0, 0, 0, 0, C_TooMany, 0, 0, 0, 0, 0, C_NoLevel, C_NoHeights, 0, 0, C_Room, 0, 0, 0, 0, 0, 0])) F__law_deeds (n_range := (PySem.W.mg_none_of X G z_range)) (g__law_draw := hg__law_draw)
  have b__law_deeds := F__law_deeds.binds (ps := [("_law_state_here" : Str), ("_law_values_here" : Str), ("_law_many" : Str)]) fun _ _ _ _ _ _ us hl => match us, hl with | [_, _, _], _ => rfl
  have hg__law_deeds : GF pgm w K mg base (kapL [C_LabelError, 0, 0, C_BadRoom, C_NoRoom, C_NoSize, 0, 0, 0, 0, C_BadDeed, 0, 0, 0, 0, C_TooMany, 0, 0, 0, 0, 0, C_NoLevel, C_NoHeights, 0, 0, C_Room, 0, 0, 0, 0, 0, 0]) ("_law_deeds" : Str) 2 3 (some 0) m__law_deeds [] := ⟨.all O__law_deeds k__law_deeds b__law_deeds, PySem.W.mg_of X G a__law_deeds⟩
  have F__law_sizes := fun_mk (st := s__law_sizes) l__law_sizes c__law_sizes k__law_sizes
  have O__law_sizes := ok__law_sizes (P := pgm) (w := w) (base := base) (mg := mg) (kap := (kapL [C_LabelError, 0, 0, C_BadRoom, C_NoRoom, C_NoSize, 0, 0, 0, 0, C_BadDeed, 0, 0, 0, 0, C_TooMany, 0, 0, 0, 0, 0, C_NoLevel, C_NoHeights, 0, 0, C_Room, 0, 0, 0, 0, 0, 0])) F__law_sizes 
  have b__law_sizes := F__law_sizes.binds (ps := [("_law_deeds_here" : Str)]) fun _ _ _ _ _ _ us hl => match us, hl with | [_], _ => rfl
  have hg__law_sizes : GF pgm w K mg base (kapL [C_LabelError, 0, 0, C_BadRoom, C_NoRoom, C_NoSize, 0, 0, 0, 0, C_BadDeed, 0, 0, 0, 0, C_TooMany, 0, 0, 0, 0, 0, C_NoLevel, C_NoHeights, 0, 0, C_Room, 0, 0, 0, 0, 0, 0]) ("_law_sizes" : Str) 1 1 none m__law_sizes [] := ⟨.all O__law_sizes k__law_sizes b__law_sizes, PySem.W.mg_of X G a__law_sizes⟩
  have F__law_rows := fun_mk (st := s__law_rows) l__law_rows c__law_rows k__law_rows
  have O__law_rows := ok__law_rows (P := pgm) (w := w) (base := base) (mg := mg) (kap := (kapL [C_LabelError, 0, 0, C_BadRoom, C_NoRoom, C_NoSize, 0, 0, 0, 0, C_BadDeed, 0, 0, 0, 0, C_TooMany, 0, 0, 0, 0, 0, C_NoLevel, C_NoHeights, 0, 0, C_Room, 0, 0, 0, 0, 0, 0])) F__law_rows (n_range := (PySem.W.mg_none_of X G z_range))
  have b__law_rows := F__law_rows.binds (ps := [("_law_wide" : Str), ("_law_size" : Str)]) fun _ _ _ _ _ _ us hl => match us, hl with | [_, _], _ => rfl
  have hg__law_rows : GF pgm w K mg base (kapL [C_LabelError, 0, 0, C_BadRoom, C_NoRoom, C_NoSize, 0, 0, 0, 0, C_BadDeed, 0, 0, 0, 0, C_TooMany, 0, 0, 0, 0, 0, C_NoLevel, C_NoHeights, 0, 0, C_Room, 0, 0, 0, 0, 0, 0]) ("_law_rows" : Str) 1 2 none m__law_rows [] := ⟨.all O__law_rows k__law_rows b__law_rows, PySem.W.mg_of X G a__law_rows⟩
  have F__law_keys := fun_mk (st := s__law_keys) l__law_keys c__law_keys k__law_keys
  have O__law_keys := ok__law_keys (P := pgm) (w := w) (base := base) (mg := mg) (kap := (kapL [C_LabelError, 0, 0, C_BadRoom, C_NoRoom, C_NoSize, 0, 0, 0, 0, C_BadDeed, 0, 0, 0, 0, C_TooMany, 0, 0, 0, 0, 0, C_NoLevel, C_NoHeights, 0, 0, C_Room, 0, 0, 0, 0, 0, 0])) F__law_keys (n_range := (PySem.W.mg_none_of X G z_range)) (n_len := (PySem.W.mg_none_of X G z_len)) (g__law_rows := hg__law_rows)
  have b__law_keys := F__law_keys.binds (ps := [("_law_values_here" : Str), ("_law_sizes_here" : Str)]) fun _ _ _ _ _ _ us hl => match us, hl with | [_, _], _ => rfl
  have hg__law_keys : GF pgm w K mg base (kapL [C_LabelError, 0, 0, C_BadRoom, C_NoRoom, C_NoSize, 0, 0, 0, 0, C_BadDeed, 0, 0, 0, 0, C_TooMany, 0, 0, 0, 0, 0, C_NoLevel, C_NoHeights, 0, 0, C_Room, 0, 0, 0, 0, 0, 0]) ("_law_keys" : Str) 2 2 none m__law_keys [] := ⟨.all O__law_keys k__law_keys b__law_keys, PySem.W.mg_of X G a__law_keys⟩
  have F_need_room := fun_mk (st := s_need_room) l_need_room c_need_room k_need_room
  have O_need_room := ok_need_room (P := pgm) (w := w) (base := base) (mg := mg) (kap := (kapL [C_LabelError, 0, 0, C_BadRoom, C_NoRoom, C_NoSize, 0, 0, 0, 0, C_BadDeed, 0, 0, 0, 0, C_TooMany, 0, 0, 0, 0, 0, C_NoLevel, C_NoHeights, 0, 0, C_Room, 0, 0, 0, 0, 0, 0])) F_need_room (kk := hkk) (gc_Room := (PySem.W.mg_of X G ac_Room)) (kc_Room := rfl) (n_isinstance := (PySem.W.mg_none_of X G z_isinstance)) (x_NoRoom := hx_NoRoom)
  have b_need_room := F_need_room.binds (ps := [("room" : Str)]) fun _ _ _ _ _ _ us hl => match us, hl with | [_], _ => rfl
  have hg_need_room : GF pgm w K mg base (kapL [C_LabelError, 0, 0, C_BadRoom, C_NoRoom, C_NoSize, 0, 0, 0, 0, C_BadDeed, 0, 0, 0, 0, C_TooMany, 0, 0, 0, 0, 0, C_NoLevel, C_NoHeights, 0, 0, C_Room, 0, 0, 0, 0, 0, 0]) ("need_room" : Str) 2 1 none m_need_room [] := ⟨.all O_need_room k_need_room b_need_room, PySem.W.mg_of X G a_need_room⟩
  have F_deed_fits := fun_mk (st := s_deed_fits) l_deed_fits c_deed_fits k_deed_fits
  have O_deed_fits := ok_deed_fits (P := pgm) (w := w) (base := base) (mg := mg) (kap := (kapL [C_LabelError, 0, 0, C_BadRoom, C_NoRoom, C_NoSize, 0, 0, 0, 0, C_BadDeed, 0, 0, 0, 0, C_TooMany, 0, 0, 0, 0, 0, C_NoLevel, C_NoHeights, 0, 0, C_Room, 0, 0, 0, 0, 0, 0])) F_deed_fits (kk := hkk) (n_tuple := (PySem.W.mg_none_of X G z_tuple)) (n_isinstance := (PySem.W.mg_none_of X G z_isinstance)) (n_len := (PySem.W.mg_none_of X G z_len)) (n_str := (PySem.W.mg_none_of X G z_str)) (a_Room_most := ⟨⟨pg_Room, hd_Room, po_Room, sa_Room⟩, na_Room_most⟩) (g_in_range := hg_in_range)
  have b_deed_fits := F_deed_fits.binds (ps := [("room" : Str), ("size" : Str), ("deed" : Str)]) fun _ _ _ _ _ _ us hl => match us, hl with | [_, _, _], _ => rfl
  have hg_deed_fits : GF pgm w K mg base (kapL [C_LabelError, 0, 0, C_BadRoom, C_NoRoom, C_NoSize, 0, 0, 0, 0, C_BadDeed, 0, 0, 0, 0, C_TooMany, 0, 0, 0, 0, 0, C_NoLevel, C_NoHeights, 0, 0, C_Room, 0, 0, 0, 0, 0, 0]) ("deed_fits" : Str) 3 3 none m_deed_fits [] := ⟨.all O_deed_fits k_deed_fits b_deed_fits, PySem.W.mg_of X G a_deed_fits⟩
  have F_bad_deed_from : FunD K ("bad_deed_from" : Str) ("bad_deed_from" : Str) (defArgs s_bad_deed_from) (defBody s_bad_deed_from) (defScope s_bad_deed_from) [.int 2000] [] f_bad_deed_from _ := ⟨⟨_, _, _, _, _, _, _, _, _, _, rfl, l_bad_deed_from, c_bad_deed_from, .inr ⟨by simp, T_bad_deed_from, o_bad_deed_from, _, n_bad_deed_from, rfl, lt_bad_deed_from, ld_bad_deed_from, (.cons ⟨_, rfl⟩ .nil)⟩, .inl rfl⟩, k_bad_deed_from⟩
  have O_bad_deed_from := ok_bad_deed_from (P := pgm) (w := w) (base := base) (mg := mg) (kap := (kapL [C_LabelError, 0, 0, C_BadRoom, C_NoRoom, C_NoSize, 0, 0, 0, 0, C_BadDeed, 0, 0, 0, 0, C_TooMany, 0, 0, 0, 0, 0, C_NoLevel, C_NoHeights, 0, 0, C_Room, 0, 0, 0, 0, 0, 0])) F_bad_deed_from (kk := hkk) (n_list := (PySem.W.mg_none_of X G z_list)) (n_isinstance := (PySem.W.mg_none_of X G z_isinstance)) (n_len := (PySem.W.mg_none_of X G z_len)) (n_enumerate := (PySem.W.mg_none_of X G z_enumerate)) (g_deed_fits := hg_deed_fits)
  obtain ⟨ds_bad_deed_from_0, hv_bad_deed_from_0, hb_bad_deed_from_0⟩ := FunD.binds1 (ps := [("room" : Str), ("size" : Str), ("deeds" : Str), ("limit" : Str)]) F_bad_deed_from 4 1 (by simp) (by rfl) (fun T kV doc pm an cdv ct us its h1 h2 => match us, h1, its, h2 with | [_, _, _, _], _, [_], _ => ⟨_, rfl, rfl⟩)
  have hg_bad_deed_from : GF pgm w K mg base (kapL [C_LabelError, 0, 0, C_BadRoom, C_NoRoom, C_NoSize, 0, 0, 0, 0, C_BadDeed, 0, 0, 0, 0, C_TooMany, 0, 0, 0, 0, 0, C_NoLevel, C_NoHeights, 0, 0, C_Room, 0, 0, 0, 0, 0, 0]) ("bad_deed_from" : Str) 4 4 none m_bad_deed_from [] := ⟨⟨f_bad_deed_from, _, _, ds_bad_deed_from_0, _, O_bad_deed_from, k_bad_deed_from, hb_bad_deed_from_0, hv_bad_deed_from_0, fun _ => .nil⟩, PySem.W.mg_of X G a_bad_deed_from⟩
  have F_need_deeds : FunD K ("need_deeds" : Str) ("need_deeds" : Str) (defArgs s_need_deeds) (defBody s_need_deeds) (defScope s_need_deeds) [.int 2000] [] f_need_deeds _ := ⟨⟨_, _, _, _, _, _, _, _, _, _, rfl, l_need_deeds, c_need_deeds, .inr ⟨by simp, T_need_deeds, o_need_deeds, _, n_need_deeds, rfl, lt_need_deeds, ld_need_deeds, (.cons ⟨_, rfl⟩ .nil)⟩, .inl rfl⟩, k_need_deeds⟩
  have O_need_deeds := ok_need_deeds (P := pgm) (w := w) (base := base) (mg := mg) (kap := (kapL [C_LabelError, 0, 0, C_BadRoom, C_NoRoom, C_NoSize, 0, 0, 0, 0, C_BadDeed, 0, 0, 0, 0, C_TooMany, 0, 0, 0, 0, 0, C_NoLevel, C_NoHeights, 0, 0, C_Room, 0, 0, 0, 0, 0, 0])) F_need_deeds (g_bad_deed_from := hg_bad_deed_from) (x_BadDeed := hx_BadDeed)
  obtain ⟨ds_need_deeds_0, hv_need_deeds_0, hb_need_deeds_0⟩ := FunD.binds1 (ps := [("room" : Str), ("deeds" : Str), ("limit" : Str)]) F_need_deeds 3 1 (by simp) (by rfl) (fun T kV doc pm an cdv ct us its h1 h2 => match us, h1, its, h2 with | [_, _, _], _, [_], _ => ⟨_, rfl, rfl⟩)
  have hg_need_deeds : GF pgm w K mg base (kapL [C_LabelError, 0, 0, C_BadRoom, C_NoRoom, C_NoSize, 0, 0, 0, 0, C_BadDeed, 0, 0, 0, 0, C_TooMany, 0, 0, 0, 0, 0, C_NoLevel, C_NoHeights, 0, 0, C_Room, 0, 0, 0, 0, 0, 0]) ("need_deeds" : Str) 5 3 none m_need_deeds [] := ⟨⟨f_need_deeds, _, _, ds_need_deeds_0, _, O_need_deeds, k_need_deeds, hb_need_deeds_0, hv_need_deeds_0, fun _ => .nil⟩, PySem.W.mg_of X G a_need_deeds⟩
  have F_count_standings := fun_mk (st := s_count_standings) l_count_standings c_count_standings k_count_standings
  have O_count_standings := ok_count_standings (P := pgm) (w := w) (base := base) (mg := mg) (kap := (kapL [C_LabelError, 0, 0, C_BadRoom, C_NoRoom, C_NoSize, 0, 0, 0, 0, C_BadDeed, 0, 0, 0, 0, C_TooMany, 0, 0, 0, 0, 0, C_NoLevel, C_NoHeights, 0, 0, C_Room, 0, 0, 0, 0, 0, 0])) F_count_standings (n_range := (PySem.W.mg_none_of X G z_range)) (a_Room_most := ⟨⟨pg_Room, hd_Room, po_Room, sa_Room⟩, na_Room_most⟩) (a_Room_labels := ⟨⟨pg_Room, hd_Room, po_Room, sa_Room⟩, na_Room_labels⟩)
  have b_count_standings := F_count_standings.binds (ps := [("room" : Str)]) fun _ _ _ _ _ _ us hl => match us, hl with | [_], _ => rfl
  have hg_count_standings : GF pgm w K mg base (kapL [C_LabelError, 0, 0, C_BadRoom, C_NoRoom, C_NoSize, 0, 0, 0, 0, C_BadDeed, 0, 0, 0, 0, C_TooMany, 0, 0, 0, 0, 0, C_NoLevel, C_NoHeights, 0, 0, C_Room, 0, 0, 0, 0, 0, 0]) ("count_standings" : Str) 1 1 none m_count_standings [] := ⟨.all O_count_standings k_count_standings b_count_standings, PySem.W.mg_of X G a_count_standings⟩
  have F_need_few : FunD K ("need_few" : Str) ("need_few" : Str) (defArgs s_need_few) (defBody s_need_few) (defScope s_need_few) [.int 60] [] f_need_few _ := ⟨⟨_, _, _, _, _, _, _, _, _, _, rfl, l_need_few, c_need_few, .inr ⟨by simp, T_need_few, o_need_few, _, n_need_few, rfl, lt_need_few, ld_need_few, (.cons ⟨_, rfl⟩ .nil)⟩, .inl rfl⟩, k_need_few⟩
  have O_need_few := ok_need_few (P := pgm) (w := w) (base := base) (mg := mg) (kap := (kapL [C_LabelError, 0, 0, C_BadRoom, C_NoRoom, C_NoSize, 0, 0, 0, 0, C_BadDeed, 0, 0, 0, 0, C_TooMany, 0, 0, 0, 0, 0, C_NoLevel, C_NoHeights, 0, 0, C_Room, 0, 0, 0, 0, 0, 0])) F_need_few (g_count_standings := hg_count_standings) (x_TooMany := hx_TooMany)
  obtain ⟨ds_need_few_1, hv_need_few_1, hb_need_few_1⟩ := FunD.binds1 (ps := [("room" : Str), ("limit" : Str)]) F_need_few 1 0 (by simp) (by rfl) (fun T kV doc pm an cdv ct us its h1 h2 => match us, h1, its, h2 with | [_], _, [_], _ => ⟨_, rfl, rfl⟩)
  have hg_need_few_1 : GF pgm w K mg base (kapL [C_LabelError, 0, 0, C_BadRoom, C_NoRoom, C_NoSize, 0, 0, 0, 0, C_BadDeed, 0, 0, 0, 0, C_TooMany, 0, 0, 0, 0, 0, C_NoLevel, C_NoHeights, 0, 0, C_Room, 0, 0, 0, 0, 0, 0]) ("need_few" : Str) 2 2 none m_need_few [.int 60] := ⟨⟨f_need_few, _, _, ds_need_few_1, _, O_need_few, k_need_few, hb_need_few_1, hv_need_few_1, fun _ => (.cons (.int _) .nil)⟩, PySem.W.mg_of X G a_need_few⟩
  have F_need_ahead := fun_mk (st := s_need_ahead) l_need_ahead c_need_ahead k_need_ahead
  have O_need_ahead := ok_need_ahead (P := pgm) (w := w) (base := base) (mg := mg) (kap := (kapL [C_LabelError, 0, 0, C_BadRoom, C_NoRoom, C_NoSize, 0, 0, 0, 0, C_BadDeed, 0, 0, 0, 0, C_TooMany, 0, 0, 0, 0, 0, C_NoLevel, C_NoHeights, 0, 0, C_Room, 0, 0, 0, 0, 0, 0])) F_need_ahead (g_need_room := hg_need_room) (g_need_deeds := hg_need_deeds) (v_MOST_AHEAD := (PySem.W.mg_of X G zv_MOST_AHEAD)) (g_need_few_1 := hg_need_few_1)
  have b_need_ahead := F_need_ahead.binds (ps := [("room" : Str), ("deeds" : Str)]) fun _ _ _ _ _ _ us hl => match us, hl with | [_, _], _ => rfl
  have hg_need_ahead : GF pgm w K mg base (kapL [C_LabelError, 0, 0, C_BadRoom, C_NoRoom, C_NoSize, 0, 0, 0, 0, C_BadDeed, 0, 0, 0, 0, C_TooMany, 0, 0, 0, 0, 0, C_NoLevel, C_NoHeights, 0, 0, C_Room, 0, 0, 0, 0, 0, 0]) ("need_ahead" : Str) 6 2 none m_need_ahead [] := ⟨.all O_need_ahead k_need_ahead b_need_ahead, PySem.W.mg_of X G a_need_ahead⟩
  have F_sizes_of := fun_mk (st := s_sizes_of) l_sizes_of c_sizes_of k_sizes_of
  have O_sizes_of := ok_sizes_of (P := pgm) (w := w) (base := base) (mg := mg) (kap := (kapL [C_LabelError, 0, 0, C_BadRoom, C_NoRoom, C_NoSize, 0, 0, 0, 0, C_BadDeed, 0, 0, 0, 0, C_TooMany, 0, 0, 0, 0, 0, C_NoLevel, C_NoHeights, 0, 0, C_Room, 0, 0, 0, 0, 0, 0])) F_sizes_of 
  have b_sizes_of := F_sizes_of.binds (ps := [("deeds" : Str)]) fun _ _ _ _ _ _ us hl => match us, hl with | [_], _ => rfl
  have hg_sizes_of : GF pgm w K mg base (kapL [C_LabelError, 0, 0, C_BadRoom, C_NoRoom, C_NoSize, 0, 0, 0, 0, C_BadDeed, 0, 0, 0, 0, C_TooMany, 0, 0, 0, 0, 0, C_NoLevel, C_NoHeights, 0, 0, C_Room, 0, 0, 0, 0, 0, 0]) ("sizes_of" : Str) 1 1 none m_sizes_of [] := ⟨.all O_sizes_of k_sizes_of b_sizes_of, PySem.W.mg_of X G a_sizes_of⟩
  have F_tuples_of := fun_mk (st := s_tuples_of) l_tuples_of c_tuples_of k_tuples_of
  have O_tuples_of := ok_tuples_of (P := pgm) (w := w) (base := base) (mg := mg) (kap := (kapL [C_LabelError, 0, 0, C_BadRoom, C_NoRoom, C_NoSize, 0, 0, 0, 0, C_BadDeed, 0, 0, 0, 0, C_TooMany, 0, 0, 0, 0, 0, C_NoLevel, C_NoHeights, 0, 0, C_Room, 0, 0, 0, 0, 0, 0])) F_tuples_of (n_range := (PySem.W.mg_none_of X G z_range))
  have b_tuples_of := F_tuples_of.binds (ps := [("labels" : Str), ("size" : Str)]) fun _ _ _ _ _ _ us hl => match us, hl with | [_, _], _ => rfl
  have hg_tuples_of : GF pgm w K mg base (kapL [C_LabelError, 0, 0, C_BadRoom, C_NoRoom, C_NoSize, 0, 0, 0, 0, C_BadDeed, 0, 0, 0, 0, C_TooMany, 0, 0, 0, 0, 0, C_NoLevel, C_NoHeights, 0, 0, C_Room, 0, 0, 0, 0, 0, 0]) ("tuples_of" : Str) 1 2 none m_tuples_of [] := ⟨.all O_tuples_of k_tuples_of b_tuples_of, PySem.W.mg_of X G a_tuples_of⟩
  have F_standings : FunD K ("standings" : Str) ("standings" : Str) (defArgs s_standings) (defBody s_standings) (defScope s_standings) [.non] [] f_standings _ := ⟨⟨_, _, _, _, _, _, _, _, _, _, rfl, l_standings, c_standings, .inr ⟨by simp, T_standings, o_standings, _, n_standings, rfl, lt_standings, ld_standings, (.cons rfl .nil)⟩, .inl rfl⟩, k_standings⟩
  have O_standings := ok_standings (P := pgm) (w := w) (base := base) (mg := mg) (kap := (kapL [C_LabelError, 0, 0, C_BadRoom, C_NoRoom, C_NoSize, 0, 0, 0, 0, C_BadDeed, 0, 0, 0, 0, C_TooMany, 0, 0, 0, 0, 0, C_NoLevel, C_NoHeights, 0, 0, C_Room, 0, 0, 0, 0, 0, 0])) F_standings (g_need_room := hg_need_room) (a_Room_labels := ⟨⟨pg_Room, hd_Room, po_Room, sa_Room⟩, na_Room_labels⟩) (n_list := (PySem.W.mg_none_of X G z_list)) (n_range := (PySem.W.mg_none_of X G z_range)) (g_in_range := hg_in_range) (a_Room_most := ⟨⟨pg_Room, hd_Room, po_Room, sa_Room⟩, na_Room_most⟩) (x_NoSize := hx_NoSize) (g_tuples_of := hg_tuples_of)
  obtain ⟨ds_standings_0, hv_standings_0, hb_standings_0⟩ := FunD.binds1 (ps := [("room" : Str), ("size" : Str)]) F_standings 2 1 (by simp) (by rfl) (fun T kV doc pm an cdv ct us its h1 h2 => match us, h1, its, h2 with | [_, _], _, [_], _ => ⟨_, rfl, rfl⟩)
  have hg_standings : GF pgm w K mg base (kapL [C_LabelError, 0, 0, C_BadRoom, C_NoRoom, C_NoSize, 0, 0, 0, 0, C_BadDeed, 0, 0, 0, 0, C_TooMany, 0, 0, 0, 0, 0, C_NoLevel, C_NoHeights, 0, 0, C_Room, 0, 0, 0, 0, 0, 0]) ("standings" : Str) 3 2 none m_standings [] := ⟨⟨f_standings, _, _, ds_standings_0, _, O_standings, k_standings, hb_standings_0, hv_standings_0, fun _ => .nil⟩, PySem.W.mg_of X G a_standings⟩
  have F_move_price := fun_mk (st := s_move_price) l_move_price c_move_price k_move_price
  have O_move_price := ok_move_price (P := pgm) (w := w) (base := base) (mg := mg) (kap := (kapL [C_LabelError, 0, 0, C_BadRoom, C_NoRoom, C_NoSize, 0, 0, 0, 0, C_BadDeed, 0, 0, 0, 0, C_TooMany, 0, 0, 0, 0, 0, C_NoLevel, C_NoHeights, 0, 0, C_Room, 0, 0, 0, 0, 0, 0])) F_move_price (n_enumerate := (PySem.W.mg_none_of X G z_enumerate)) (a_Room_change := ⟨⟨pg_Room, hd_Room, po_Room, sa_Room⟩, na_Room_change⟩) (a_Room_step := ⟨⟨pg_Room, hd_Room, po_Room, sa_Room⟩, na_Room_step⟩) (n_abs := (PySem.W.mg_none_of X G z_abs))
  have b_move_price := F_move_price.binds (ps := [("room" : Str), ("standing" : Str), ("gap" : Str), ("following" : Str)]) fun _ _ _ _ _ _ us hl => match us, hl with | [_, _, _, _], _ => rfl
  have hg_move_price : GF pgm w K mg base (kapL [C_LabelError, 0, 0, C_BadRoom, C_NoRoom, C_NoSize, 0, 0, 0, 0, C_BadDeed, 0, 0, 0, 0, C_TooMany, 0, 0, 0, 0, 0, C_NoLevel, C_NoHeights, 0, 0, C_Room, 0, 0, 0, 0, 0, 0]) ("move_price" : Str) 1 4 none m_move_price [] := ⟨.all O_move_price k_move_price b_move_price, PySem.W.mg_of X G a_move_price⟩
  have F_paid_for := fun_mk (st := s_paid_for) l_paid_for c_paid_for k_paid_for
  have O_paid_for := ok_paid_for (P := pgm) (w := w) (base := base) (mg := mg) (kap := (kapL [C_LabelError, 0, 0, C_BadRoom, C_NoRoom, C_NoSize, 0, 0, 0, 0, C_BadDeed, 0, 0, 0, 0, C_TooMany, 0, 0, 0, 0, 0, C_NoLevel, C_NoHeights, 0, 0, C_Room, 0, 0, 0, 0, 0, 0])) F_paid_for (g_move_price := hg_move_price)
  have b_paid_for := F_paid_for.binds (ps := [("room" : Str), ("standing" : Str), ("deed" : Str), ("following" : Str)]) fun _ _ _ _ _ _ us hl => match us, hl with | [_, _, _, _], _ => rfl
  have hg_paid_for : GF pgm w K mg base (kapL [C_LabelError, 0, 0, C_BadRoom, C_NoRoom, C_NoSize, 0, 0, 0, 0, C_BadDeed, 0, 0, 0, 0, C_TooMany, 0, 0, 0, 0, 0, C_NoLevel, C_NoHeights, 0, 0, C_Room, 0, 0, 0, 0, 0, 0]) ("paid_for" : Str) 2 4 none m_paid_for [] := ⟨.all O_paid_for k_paid_for b_paid_for, PySem.W.mg_of X G a_paid_for⟩
  have F_without := fun_mk (st := s_without) l_without c_without k_without
  have O_without := ok_without (P := pgm) (w := w) (base := base) (mg := mg) (kap := (kapL [C_LabelError, 0, 0, C_BadRoom, C_NoRoom, C_NoSize, 0, 0, 0, 0, C_BadDeed, 0, 0, 0, 0, C_TooMany, 0, 0, 0, 0, 0, C_NoLevel, C_NoHeights, 0, 0, C_Room, 0, 0, 0, 0, 0, 0])) F_without 
  have b_without := F_without.binds (ps := [("standing" : Str), ("place" : Str)]) fun _ _ _ _ _ _ us hl => match us, hl with | [_, _], _ => rfl
  have hg_without : GF pgm w K mg base (kapL [C_LabelError, 0, 0, C_BadRoom, C_NoRoom, C_NoSize, 0, 0, 0, 0, C_BadDeed, 0, 0, 0, 0, C_TooMany, 0, 0, 0, 0, 0, C_NoLevel, C_NoHeights, 0, 0, C_Room, 0, 0, 0, 0, 0, 0]) ("without" : Str) 1 2 none m_without [] := ⟨.all O_without k_without b_without, PySem.W.mg_of X G a_without⟩
  have F_after_all := fun_mk (st := s_after_all) l_after_all c_after_all k_after_all
  have O_after_all := ok_after_all (P := pgm) (w := w) (base := base) (mg := mg) (kap := (kapL [C_LabelError, 0, 0, C_BadRoom, C_NoRoom, C_NoSize, 0, 0, 0, 0, C_BadDeed, 0, 0, 0, 0, C_TooMany, 0, 0, 0, 0, 0, C_NoLevel, C_NoHeights, 0, 0, C_Room, 0, 0, 0, 0, 0, 0])) F_after_all (g_without := hg_without) (g_standings := hg_standings) (n_len := (PySem.W.mg_none_of X G z_len))
  have b_after_all := F_after_all.binds (ps := [("room" : Str), ("standing" : Str), ("deed" : Str)]) fun _ _ _ _ _ _ us hl => match us, hl with | [_, _, _], _ => rfl
  have hg_after_all : GF pgm w K mg base (kapL [C_LabelError, 0, 0, C_BadRoom, C_NoRoom, C_NoSize, 0, 0, 0, 0, C_BadDeed, 0, 0, 0, 0, C_TooMany, 0, 0, 0, 0, 0, C_NoLevel, C_NoHeights, 0, 0, C_Room, 0, 0, 0, 0, 0, 0]) ("after_all" : Str) 4 3 none m_after_all [] := ⟨.all O_after_all k_after_all b_after_all, PySem.W.mg_of X G a_after_all⟩
  have F_cost_table := fun_mk (st := s_cost_table) l_cost_table c_cost_table k_cost_table
  have O_cost_table := ok_cost_table (P := pgm) (w := w) (base := base) (mg := mg) (kap := (kapL [C_LabelError, 0, 0, C_BadRoom, C_NoRoom, C_NoSize, 0, 0, 0, 0, C_BadDeed, 0, 0, 0, 0, C_TooMany, 0, 0, 0, 0, 0, C_NoLevel, C_NoHeights, 0, 0, C_Room, 0, 0, 0, 0, 0, 0])) F_cost_table (g_sizes_of := hg_sizes_of) (g_standings := hg_standings) (n_len := (PySem.W.mg_none_of X G z_len)) (n_range := (PySem.W.mg_none_of X G z_range)) (n_reversed := (PySem.W.mg_none_of X G z_reversed)) (g_after_all := hg_after_all) (g_paid_for := hg_paid_for) (n_int := (PySem.W.mg_none_of X G z_int)) (n_min := (PySem.W.mg_none_of X G z_min))
  have b_cost_table := F_cost_table.binds (ps := [("room" : Str), ("deeds" : Str)]) fun _ _ _ _ _ _ us hl => match us, hl with | [_, _], _ => rfl
  have hg_cost_table : GF pgm w K mg base (kapL [C_LabelError, 0, 0, C_BadRoom, C_NoRoom, C_NoSize, 0, 0, 0, 0, C_BadDeed, 0, 0, 0, 0, C_TooMany, 0, 0, 0, 0, 0, C_NoLevel, C_NoHeights, 0, 0, C_Room, 0, 0, 0, 0, 0, 0]) ("cost_table" : Str) 5 2 none m_cost_table [] := ⟨.all O_cost_table k_cost_table b_cost_table, PySem.W.mg_of X G a_cost_table⟩
  have F_least_total := fun_mk (st := s_least_total) l_least_total c_least_total k_least_total
  have O_least_total := ok_least_total (P := pgm) (w := w) (base := base) (mg := mg) (kap := (kapL [C_LabelError, 0, 0, C_BadRoom, C_NoRoom, C_NoSize, 0, 0, 0, 0, C_BadDeed, 0, 0, 0, 0, C_TooMany, 0, 0, 0, 0, 0, C_NoLevel, C_NoHeights, 0, 0, C_Room, 0, 0, 0, 0, 0, 0])) F_least_total (g_need_ahead := hg_need_ahead) (g_cost_table := hg_cost_table)
  have b_least_total := F_least_total.binds (ps := [("room" : Str), ("deeds" : Str)]) fun _ _ _ _ _ _ us hl => match us, hl with | [_, _], _ => rfl
  have hg_least_total : GF pgm w K mg base (kapL [C_LabelError, 0, 0, C_BadRoom, C_NoRoom, C_NoSize, 0, 0, 0, 0, C_BadDeed, 0, 0, 0, 0, C_TooMany, 0, 0, 0, 0, 0, C_NoLevel, C_NoHeights, 0, 0, C_Room, 0, 0, 0, 0, 0, 0]) ("least_total" : Str) 7 2 none m_least_total [] := ⟨.all O_least_total k_least_total b_least_total, PySem.W.mg_of X G a_least_total⟩
  have F_plan_certificate := fun_mk (st := s_plan_certificate) l_plan_certificate c_plan_certificate k_plan_certificate
  have O_plan_certificate := ok_plan_certificate (P := pgm) (w := w) (base := base) (mg := mg) (kap := (kapL [C_LabelError, 0, 0, C_BadRoom, C_NoRoom, C_NoSize, 0, 0, 0, 0, C_BadDeed, 0, 0, 0, 0, C_TooMany, 0, 0, 0, 0, 0, C_NoLevel, C_NoHeights, 0, 0, C_Room, 0, 0, 0, 0, 0, 0])) F_plan_certificate (g_need_ahead := hg_need_ahead) (g_cost_table := hg_cost_table)
  have b_plan_certificate := F_plan_certificate.binds (ps := [("room" : Str), ("deeds" : Str)]) fun _ _ _ _ _ _ us hl => match us, hl with | [_, _], _ => rfl
  have hg_plan_certificate : GF pgm w K mg base (kapL [C_LabelError, 0, 0, C_BadRoom, C_NoRoom, C_NoSize, 0, 0, 0, 0, C_BadDeed, 0, 0, 0, 0, C_TooMany, 0, 0, 0, 0, 0, C_NoLevel, C_NoHeights, 0, 0, C_Room, 0, 0, 0, 0, 0, 0]) ("plan_certificate" : Str) 7 2 none m_plan_certificate [] := ⟨.all O_plan_certificate k_plan_certificate b_plan_certificate, PySem.W.mg_of X G a_plan_certificate⟩
  have F__law_spoil := fun_mk (st := s__law_spoil) l__law_spoil c__law_spoil k__law_spoil
  have O__law_spoil := ok__law_spoil (P := pgm) (w := w) (base := base) (mg := mg) (kap := (kapL [C_LabelError, 0, 0, C_BadRoom, C_NoRoom, C_NoSize, 0, 0, 0, 0, C_BadDeed, 0, 0, 0, 0, C_TooMany, 0, 0, 0, 0, 0, C_NoLevel, C_NoHeights, 0, 0, C_Room, 0, 0, 0, 0, 0, 0])) F__law_spoil (g__law_draw := hg__law_draw) (n_len := (PySem.W.mg_none_of X G z_len)) (n_range := (PySem.W.mg_none_of X G z_range))
  have b__law_spoil := F__law_spoil.binds (ps := [("_law_state_here" : Str), ("_law_keys_here" : Str), ("_law_table" : Str)]) fun _ _ _ _ _ _ us hl => match us, hl with | [_, _, _], _ => rfl
  have hg__law_spoil : GF pgm w K mg base (kapL [C_LabelError, 0, 0, C_BadRoom, C_NoRoom, C_NoSize, 0, 0, 0, 0, C_BadDeed, 0, 0, 0, 0, C_TooMany, 0, 0, 0, 0, 0, C_NoLevel, C_NoHeights, 0, 0, C_Room, 0, 0, 0, 0, 0, 0]) ("_law_spoil" : Str) 2 3 (some 0) m__law_spoil [] := ⟨.all O__law_spoil k__law_spoil b__law_spoil, PySem.W.mg_of X G a__law_spoil⟩
  have F__law_without := fun_mk (st := s__law_without) l__law_without c__law_without k__law_without
  have O__law_without := ok__law_without (P := pgm) (w := w) (base := base) (mg := mg) (kap := (kapL [C_LabelError, 0, 0, C_BadRoom, C_NoRoom, C_NoSize, 0, 0, 0, 0, C_BadDeed, 0, 0, 0, 0, C_TooMany, 0, 0, 0, 0, 0, C_NoLevel, C_NoHeights, 0, 0, C_Room, 0, 0, 0, 0, 0, 0])) F__law_without 
  have b__law_without := F__law_without.binds (ps := [("_law_row" : Str), ("_law_place" : Str)]) fun _ _ _ _ _ _ us hl => match us, hl with | [_, _], _ => rfl
  have hg__law_without : GF pgm w K mg base (kapL [C_LabelError, 0, 0, C_BadRoom, C_NoRoom, C_NoSize, 0, 0, 0, 0, C_BadDeed, 0, 0, 0, 0, C_TooMany, 0, 0, 0, 0, 0, C_NoLevel, C_NoHeights, 0, 0, C_Room, 0, 0, 0, 0, 0, 0]) ("_law_without" : Str) 1 2 none m__law_without [] := ⟨.all O__law_without k__law_without b__law_without, PySem.W.mg_of X G a__law_without⟩
  have F__law_after := fun_mk (st := s__law_after) l__law_after c__law_after k__law_after
  have O__law_after := ok__law_after (P := pgm) (w := w) (base := base) (mg := mg) (kap := (kapL [C_LabelError, 0, 0, C_BadRoom, C_NoRoom, C_NoSize, 0, 0, 0, 0, C_BadDeed, 0, 0, 0, 0, C_TooMany, 0, 0, 0, 0, 0, C_NoLevel, C_NoHeights, 0, 0, C_Room, 0, 0, 0, 0, 0, 0])) F__law_after (g__law_without := hg__law_without) (g__law_rows := hg__law_rows) (n_len := (PySem.W.mg_none_of X G z_len))
  have b__law_after := F__law_after.binds (ps := [("_law_values_here" : Str), ("_law_row" : Str), ("_law_deed" : Str)]) fun _ _ _ _ _ _ us hl => match us, hl with | [_, _, _], _ => rfl
  have hg__law_after : GF pgm w K mg base (kapL [C_LabelError, 0, 0, C_BadRoom, C_NoRoom, C_NoSize, 0, 0, 0, 0, C_BadDeed, 0, 0, 0, 0, C_TooMany, 0, 0, 0, 0, 0, C_NoLevel, C_NoHeights, 0, 0, C_Room, 0, 0, 0, 0, 0, 0]) ("_law_after" : Str) 2 3 none m__law_after [] := ⟨.all O__law_after k__law_after b__law_after, PySem.W.mg_of X G a__law_after⟩
  have F__law_whole := fun_mk (st := s__law_whole) l__law_whole c__law_whole k__law_whole
  have O__law_whole := ok__law_whole (P := pgm) (w := w) (base := base) (mg := mg) (kap := (kapL [C_LabelError, 0, 0, C_BadRoom, C_NoRoom, C_NoSize, 0, 0, 0, 0, C_BadDeed, 0, 0, 0, 0, C_TooMany, 0, 0, 0, 0, 0, C_NoLevel, C_NoHeights, 0, 0, C_Room, 0, 0, 0, 0, 0, 0])) F__law_whole (kk := hkk) (n_int := (PySem.W.mg_none_of X G z_int)) (n_isinstance := (PySem.W.mg_none_of X G z_isinstance)) (n_bool := (PySem.W.mg_none_of X G z_bool))
  have b__law_whole := F__law_whole.binds (ps := [("_law_thing" : Str)]) fun _ _ _ _ _ _ us hl => match us, hl with | [_], _ => rfl
  have hg__law_whole : GF pgm w K mg base (kapL [C_LabelError, 0, 0, C_BadRoom, C_NoRoom, C_NoSize, 0, 0, 0, 0, C_BadDeed, 0, 0, 0, 0, C_TooMany, 0, 0, 0, 0, 0, C_NoLevel, C_NoHeights, 0, 0, C_Room, 0, 0, 0, 0, 0, 0]) ("_law_whole" : Str) 1 1 none m__law_whole [] := ⟨.all O__law_whole k__law_whole b__law_whole, PySem.W.mg_of X G a__law_whole⟩
  have F__law_price := fun_mk (st := s__law_price) l__law_price c__law_price k__law_price
  have O__law_price := ok__law_price (P := pgm) (w := w) (base := base) (mg := mg) (kap := (kapL [C_LabelError, 0, 0, C_BadRoom, C_NoRoom, C_NoSize, 0, 0, 0, 0, C_BadDeed, 0, 0, 0, 0, C_TooMany, 0, 0, 0, 0, 0, C_NoLevel, C_NoHeights, 0, 0, C_Room, 0, 0, 0, 0, 0, 0])) F__law_price (n_range := (PySem.W.mg_none_of X G z_range)) (n_len := (PySem.W.mg_none_of X G z_len)) (n_int := (PySem.W.mg_none_of X G z_int)) (n_abs := (PySem.W.mg_none_of X G z_abs))
  have b__law_price := F__law_price.binds (ps := [("_law_values_here" : Str), ("_law_row" : Str), ("_law_gap" : Str), ("_law_after_here" : Str)]) fun _ _ _ _ _ _ us hl => match us, hl with | [_, _, _, _], _ => rfl
  have hg__law_price : GF pgm w K mg base (kapL [C_LabelError, 0, 0, C_BadRoom, C_NoRoom, C_NoSize, 0, 0, 0, 0, C_BadDeed, 0, 0, 0, 0, C_TooMany, 0, 0, 0, 0, 0, C_NoLevel, C_NoHeights, 0, 0, C_Room, 0, 0, 0, 0, 0, 0]) ("_law_price" : Str) 1 4 none m__law_price [] := ⟨.all O__law_price k__law_price b__law_price, PySem.W.mg_of X G a__law_price⟩
  have F__law_paid := fun_mk (st := s__law_paid) l__law_paid c__law_paid k__law_paid
  have O__law_paid := ok__law_paid (P := pgm) (w := w) (base := base) (mg := mg) (kap := (kapL [C_LabelError, 0, 0, C_BadRoom, C_NoRoom, C_NoSize, 0, 0, 0, 0, C_BadDeed, 0, 0, 0, 0, C_TooMany, 0, 0, 0, 0, 0, C_NoLevel, C_NoHeights, 0, 0, C_Room, 0, 0, 0, 0, 0, 0])) F__law_paid (g__law_price := hg__law_price)
  have b__law_paid := F__law_paid.binds (ps := [("_law_values_here" : Str), ("_law_row" : Str), ("_law_deed" : Str), ("_law_after_here" : Str)]) fun _ _ _ _ _ _ us hl => match us, hl with | [_, _, _, _], _ => rfl
  have hg__law_paid : GF pgm w K mg base (kapL [C_LabelError, 0, 0, C_BadRoom, C_NoRoom, C_NoSize, 0, 0, 0, 0, C_BadDeed, 0, 0, 0, 0, C_TooMany, 0, 0, 0, 0, 0, C_NoLevel, C_NoHeights, 0, 0, C_Room, 0, 0, 0, 0, 0, 0]) ("_law_paid" : Str) 2 4 none m__law_paid [] := ⟨.all O__law_paid k__law_paid b__law_paid, PySem.W.mg_of X G a__law_paid⟩
  have F__law_due := fun_mk (st := s__law_due) l__law_due c__law_due k__law_due
  have O__law_due := ok__law_due (P := pgm) (w := w) (base := base) (mg := mg) (kap := (kapL [C_LabelError, 0, 0, C_BadRoom, C_NoRoom, C_NoSize, 0, 0, 0, 0, C_BadDeed, 0, 0, 0, 0, C_TooMany, 0, 0, 0, 0, 0, C_NoLevel, C_NoHeights, 0, 0, C_Room, 0, 0, 0, 0, 0, 0])) F__law_due (g__law_keys := hg__law_keys) (g__law_whole := hg__law_whole) (g__law_rows := hg__law_rows) (n_len := (PySem.W.mg_none_of X G z_len)) (n_range := (PySem.W.mg_none_of X G z_range)) (g__law_after := hg__law_after) (g__law_paid := hg__law_paid)
  have b__law_due := F__law_due.binds (ps := [("_law_values_here" : Str), ("_law_deeds_here" : Str), ("_law_sizes_here" : Str), ("_law_total" : Str), ("_law_table" : Str)]) fun _ _ _ _ _ _ us hl => match us, hl with | [_, _, _, _, _], _ => rfl
  have hg__law_due : GF pgm w K mg base (kapL [C_LabelError, 0, 0, C_BadRoom, C_NoRoom, C_NoSize, 0, 0, 0, 0, C_BadDeed, 0, 0, 0, 0, C_TooMany, 0, 0, 0, 0, 0, C_NoLevel, C_NoHeights, 0, 0, C_Room, 0, 0, 0, 0, 0, 0]) ("_law_due" : Str) 3 5 none m__law_due [] := ⟨.all O__law_due k__law_due b__law_due, PySem.W.mg_of X G a__law_due⟩
  have F__law_same := fun_mk (st := s__law_same) l__law_same c__law_same k__law_same
  have O__law_same := ok__law_same (P := pgm) (w := w) (base := base) (mg := mg) (kap := (kapL [C_LabelError, 0, 0, C_BadRoom, C_NoRoom, C_NoSize, 0, 0, 0, 0, C_BadDeed, 0, 0, 0, 0, C_TooMany, 0, 0, 0, 0, 0, C_NoLevel, C_NoHeights, 0, 0, C_Room, 0, 0, 0, 0, 0, 0])) F__law_same (kk := hkk) (n_tuple := (PySem.W.mg_none_of X G z_tuple)) (n_isinstance := (PySem.W.mg_none_of X G z_isinstance))
  have b__law_same := F__law_same.binds (ps := [("_law_told" : Str), ("_law_due_here" : Str)]) fun _ _ _ _ _ _ us hl => match us, hl with | [_, _], _ => rfl
  have hg__law_same : GF pgm w K mg base (kapL [C_LabelError, 0, 0, C_BadRoom, C_NoRoom, C_NoSize, 0, 0, 0, 0, C_BadDeed, 0, 0, 0, 0, C_TooMany, 0, 0, 0, 0, 0, C_NoLevel, C_NoHeights, 0, 0, C_Room, 0, 0, 0, 0, 0, 0]) ("_law_same" : Str) 1 2 none m__law_same [] := ⟨.all O__law_same k__law_same b__law_same, PySem.W.mg_of X G a__law_same⟩
  have F_need_dict := fun_mk (st := s_need_dict) l_need_dict c_need_dict k_need_dict
  have O_need_dict := ok_need_dict (P := pgm) (w := w) (base := base) (mg := mg) (kap := (kapL [C_LabelError, 0, 0, C_BadRoom, C_NoRoom, C_NoSize, 0, 0, 0, 0, C_BadDeed, 0, 0, 0, 0, C_TooMany, 0, 0, 0, 0, 0, C_NoLevel, C_NoHeights, 0, 0, C_Room, 0, 0, 0, 0, 0, 0])) F_need_dict (kk := hkk) (n_dict := (PySem.W.mg_none_of X G z_dict)) (n_isinstance := (PySem.W.mg_none_of X G z_isinstance)) (x_NoHeights := hx_NoHeights)
  have b_need_dict := F_need_dict.binds (ps := [("thing" : Str)]) fun _ _ _ _ _ _ us hl => match us, hl with | [_], _ => rfl
  have hg_need_dict : GF pgm w K mg base (kapL [C_LabelError, 0, 0, C_BadRoom, C_NoRoom, C_NoSize, 0, 0, 0, 0, C_BadDeed, 0, 0, 0, 0, C_TooMany, 0, 0, 0, 0, 0, C_NoLevel, C_NoHeights, 0, 0, C_Room, 0, 0, 0, 0, 0, 0]) ("need_dict" : Str) 2 1 none m_need_dict [] := ⟨.all O_need_dict k_need_dict b_need_dict, PySem.W.mg_of X G a_need_dict⟩
  have F_key_fault := fun_mk (st := s_key_fault) l_key_fault c_key_fault k_key_fault
  have O_key_fault := ok_key_fault (P := pgm) (w := w) (base := base) (mg := mg) (kap := (kapL [C_LabelError, 0, 0, C_BadRoom, C_NoRoom, C_NoSize, 0, 0, 0, 0, C_BadDeed, 0, 0, 0, 0, C_TooMany, 0, 0, 0, 0, 0, C_NoLevel, C_NoHeights, 0, 0, C_Room, 0, 0, 0, 0, 0, 0])) F_key_fault (g_sizes_of := hg_sizes_of) (n_enumerate := (PySem.W.mg_none_of X G z_enumerate)) (g_standings := hg_standings) (g_is_integer := hg_is_integer) (n_len := (PySem.W.mg_none_of X G z_len))
  have b_key_fault := F_key_fault.binds (ps := [("room" : Str), ("deeds" : Str), ("table" : Str)]) fun _ _ _ _ _ _ us hl => match us, hl with | [_, _, _], _ => rfl
  have hg_key_fault : GF pgm w K mg base (kapL [C_LabelError, 0, 0, C_BadRoom, C_NoRoom, C_NoSize, 0, 0, 0, 0, C_BadDeed, 0, 0, 0, 0, C_TooMany, 0, 0, 0, 0, 0, C_NoLevel, C_NoHeights, 0, 0, C_Room, 0, 0, 0, 0, 0, 0]) ("key_fault" : Str) 4 3 none m_key_fault [] := ⟨.all O_key_fault k_key_fault b_key_fault, PySem.W.mg_of X G a_key_fault⟩
  have F_plan_fault := fun_mk (st := s_plan_fault) l_plan_fault c_plan_fault k_plan_fault
  have O_plan_fault := ok_plan_fault (P := pgm) (w := w) (base := base) (mg := mg) (kap := (kapL [C_LabelError, 0, 0, C_BadRoom, C_NoRoom, C_NoSize, 0, 0, 0, 0, C_BadDeed, 0, 0, 0, 0, C_TooMany, 0, 0, 0, 0, 0, C_NoLevel, C_NoHeights, 0, 0, C_Room, 0, 0, 0, 0, 0, 0])) F_plan_fault (g_need_room := hg_need_room) (g_need_deeds := hg_need_deeds) (v_MOST_AHEAD := (PySem.W.mg_of X G zv_MOST_AHEAD)) (g_is_integer := hg_is_integer) (x_NoLevel := hx_NoLevel) (g_need_dict := hg_need_dict) (g_need_few_1 := hg_need_few_1) (g_key_fault := hg_key_fault) (g_sizes_of := hg_sizes_of) (n_enumerate := (PySem.W.mg_none_of X G z_enumerate)) (g_standings := hg_standings) (g_after_all := hg_after_all) (g_paid_for := hg_paid_for)
  have b_plan_fault := F_plan_fault.binds (ps := [("room" : Str), ("deeds" : Str), ("total" : Str), ("table" : Str)]) fun _ _ _ _ _ _ us hl => match us, hl with | [_, _, _, _], _ => rfl
  have hg_plan_fault : GF pgm w K mg base (kapL [C_LabelError, 0, 0, C_BadRoom, C_NoRoom, C_NoSize, 0, 0, 0, 0, C_BadDeed, 0, 0, 0, 0, C_TooMany, 0, 0, 0, 0, 0, C_NoLevel, C_NoHeights, 0, 0, C_Room, 0, 0, 0, 0, 0, 0]) ("plan_fault" : Str) 6 4 none m_plan_fault [] := ⟨.all O_plan_fault k_plan_fault b_plan_fault, PySem.W.mg_of X G a_plan_fault⟩
  have F_law := fun_mk (st := s_law) l_law c_law k_law
  exact ok_law (P := pgm) (w := w) (base := base) (kap := (kapL [C_LabelError, 0, 0, C_BadRoom, C_NoRoom, C_NoSize, 0, 0, 0, 0, C_BadDeed, 0, 0, 0, 0, C_TooMany, 0, 0, 0, 0, 0, C_NoLevel, C_NoHeights, 0, 0, C_Room, 0, 0, 0, 0, 0, 0])) F_law (n_range := (PySem.W.mg_none_of X G z_range)) (n_len := (PySem.W.mg_none_of X G z_len)) (g__law_state := hg__law_state) (g__law_values := hg__law_values) (g__law_make := hg__law_make) (g__law_deeds := hg__law_deeds) (g__law_draw := hg__law_draw) (g__law_sizes := hg__law_sizes) (g__law_keys := hg__law_keys) (g_least_total := hg_least_total) (n_list := (PySem.W.mg_none_of X G z_list)) (g_plan_certificate := hg_plan_certificate) (g__law_spoil := hg__law_spoil) (g__law_due := hg__law_due) (n_dict := (PySem.W.mg_none_of X G z_dict)) (g__law_same := hg__law_same) (g_plan_fault := hg_plan_fault)
open PySem.Spec PyProof.Rows in
theorem walk {q : Program} {loose : List Str} {XP : (Str → Option Value) → Heap → Prop} {YP : World → Heap → Prop} {d : DefRec} {K : Params → PySem.W.Frag} (hp : ∀ ns : List Int, ns.length ≤ 63 → ∃ q, m_law [.scr (ns.map .int)] = .ret (.bl true) q) (hdf : d.params.defaults = []) (him : importsNone q = true)
    (hY : ∀ (w : World) (h : Heap), YP w h → (K w.params).In h)
    (F : ∀ (w : World) (mg : Str → Option Value) (fa : Addr) (h : Heap), (K w.params).In h → h.Ns mainGlobals mg → mg d.name = some (.ref fa) →
      ∃ fd : FuncData, (∀ (s : Shared) (u : Value), BindsTo s fd ⟨[u], []⟩ [(("_law_script" : Str), u)]) ∧ ∀ base : Heap, (K w.params).In base → base.Ns mainGlobals mg → SmB base → ∃ kap : Kp, kap.tab = [] ∧ FnG pgm w (K w.params) mg base (L2.CX pgm w) 8 fa fd [("_law_script" : Str)] (spD (K w.params) kap 1 none m_law)) :
    PySem.W.WalkO q loose XP YP (PySem.Challenge.rw_labelgaps_k88_plan_faults).row.toRowW d [] (fun f vs => PySem.call f vs) :=
  walkG_of (l := PySem.Challenge.rw_labelgaps_k88_plan_faults) (n := 63) (k := 8) (x := ("_law_script" : Str)) (CX := fun w => L2.CX pgm w) (sp := fun w => spLaw 63 (K w.params)) rfl (by decide) hdf ⟨⟨rfl, by decide, by decide⟩, rfl⟩ him hY 
    (fun w mg fa h KX G hmg => by
      obtain ⟨fd, hb, hF⟩ := F w mg fa h KX G hmg
      refine ⟨fd, hb, fun base b1 b2 b3 => ?_⟩
      obtain ⟨kap, ht, ok⟩ := hF base b1 b2 b3
      exact ok.imp (law_imp hp ht))
    (fun _ _ a ns hl hO hS => ⟨a, ns, rfl, hS, hl, tabs_only hO, fun _ => rfl⟩) fun w H s e s' z => cx_end H s e s' z
end Lw
set_option maxRecDepth 100000
set_option maxHeartbeats 4000000
set_option exponentiation.threshold 300
set_option autoImplicit false
namespace Lw
open DL L2
/-! ### draws -/
structure DS where
  a : Nat
  c : Nat
def stD (s : DS) : D := .lst [.int s.a, .int s.c]
def Ok (n : Nat) (s : DS) : Prop := s.c + n < 2 ^ 60
theorem Ok.mono {n m : Nat} {s : DS} (h : Ok n s) (l : m ≤ n) : Ok m s := by unfold Ok at *; omega
theorem h_drawL {n : Nat} (s : DS) (many : Int) (hs : Ok (n + 1) s) (hm : 0 < many) (hm2 : many < 2 ^ 190) :
    ∃ (r : Nat) (s' : DS), m__law_draw [stD s, .int many] = .ret (.int r) (some (stD s')) ∧ (r : Int) < many ∧ Ok n s' := by
  obtain ⟨a0, c0⟩ := s
  have h4 : cPow 10 18 = true := by decide
  have hc : c0 + (n + 1) < 2 ^ 60 := hs
  obtain ⟨a, ha⟩ : ∃ a : Int, (a0 : Int) = a := ⟨_, rfl⟩
  obtain ⟨c, hcc⟩ : ∃ c : Int, (c0 : Int) = c := ⟨_, rfl⟩
  have key : ∃ r a' : Int, m__law_draw [.lst [.int a, .int c], .int many] = .ret (.int r) (some (.lst [.int a', .int (c + 1)])) ∧ 0 ≤ r ∧ r < many ∧ 0 ≤ a' := by
    by_cases h : (1000000000000000000 : Int) ≤ a
    · have h1 : cDiv a many = true := cDiv_ok hm (by omega)
      have h2 : cMod a many = true := cMod_ok hm
      refine ⟨a % many, a / many, ?_, Int.emod_nonneg _ (by omega), Int.emod_lt_of_pos _ hm, Int.ediv_nonneg (by omega) (by omega)⟩
      simp [m__law_draw, DL.run, e__law_draw, h1, h2, h, h4]
    · obtain ⟨x1, e1⟩ : ∃ x, a + 7919 * (c + 1) = x := ⟨_, rfl⟩
      obtain ⟨x2, e2⟩ : ∃ x, x1 * 48271 % 2147483647 = x := ⟨_, rfl⟩
      obtain ⟨x3, e3⟩ : ∃ x, x2 * (x2 / 1013 + 69623) % 2147483629 = x := ⟨_, rfl⟩
      obtain ⟨x4, e4⟩ : ∃ x, x3 * (x3 / 2011 + 40693) % 2147483399 = x := ⟨_, rfl⟩
      have b1 : 0 ≤ x1 ∧ x1 < 2 ^ 100 := by omega
      have b2 : 0 ≤ x2 ∧ x2 < 2147483647 := by rw [← e2]; exact ⟨Int.emod_nonneg _ (by decide), Int.emod_lt_of_pos _ (by decide)⟩
      have b3 : 0 ≤ x3 ∧ x3 < 2147483629 := by rw [← e3]; exact ⟨Int.emod_nonneg _ (by decide), Int.emod_lt_of_pos _ (by decide)⟩
      have m1 : cMul 7919 (c + 1) = true := cMul_ok (by decide) (by omega)
      have m2 : cMul x1 48271 = true := cMul_ok (by omega) (by decide)
      have m3 : cMul x2 (x2 / 1013 + 69623) = true := cMul_ok (by omega) (by omega)
      have m4 : cMul x3 (x3 / 2011 + 40693) = true := cMul_ok (by omega) (by omega)
      have d1 : cMod (x1 * 48271) 2147483647 = true := cMod_ok (by decide)
      have d2 : cMod (x2 * (x2 / 1013 + 69623)) 2147483629 = true := cMod_ok (by decide)
      have d3 : cMod (x3 * (x3 / 2011 + 40693)) 2147483399 = true := cMod_ok (by decide)
      have d4 : cMod (x4 / 32) many = true := cMod_ok hm
      have f1 : cDiv x2 1013 = true := cDiv_ok (by decide) (by decide)
      have f2 : cDiv x3 2011 = true := cDiv_ok (by decide) (by decide)
      have f3 : cDiv x4 32 = true := cDiv_ok (by decide) (by decide)
      refine ⟨x4 / 32 % many, a, ?_, Int.emod_nonneg _ (by omega), Int.emod_lt_of_pos _ hm, by omega⟩
      simp [m__law_draw, DL.run, e__law_draw, h, h4, e1, e2, e3, e4, m1, m2, m3, m4, d1, d2, d3, d4, f1, f2, f3]
  obtain ⟨r, a', e, h0, h1, h2⟩ := key
  obtain ⟨r, rfl⟩ := Int.eq_ofNat_of_zero_le h0
  obtain ⟨a', rfl⟩ := Int.eq_ofNat_of_zero_le h2
  refine ⟨r, ⟨a', c0 + 1⟩, ?_, h1, by show c0 + 1 + n < 2 ^ 60; omega⟩
  have e5 : stD ⟨a0, c0⟩ = .lst [.int a, .int c] := by rw [← ha, ← hcc]; rfl
  have e6 : stD ⟨a', c0 + 1⟩ = .lst [.int a', .int (c + 1)] := by rw [← hcc]; rfl
  rw [e5, e6, e]
theorem h_draw {n : Nat} (s : DS) (many : Int) (hs : Ok (n + 1) s) (hm : 0 < many) (hm2 : many < 2 ^ 64) :
    ∃ (r : Nat) (s' : DS), m__law_draw [stD s, .int many] = .ret (.int r) (some (stD s')) ∧ (r : Int) < many ∧ Ok n s' := h_drawL s many hs hm (by omega)
theorem h_state (ns : List Int) (k : Nat) (j : Int) (hj : j = k) (hk : k < 2 ^ 30) : ∃ s, m__law_state [.scr (ns.map .int), .int j] = .retF (stD s) none ∧ Ok (2 ^ 50) s := by
  subst hj
  have m1 : cMul 977 k = true := cMul_ok (by decide) (by omega)
  by_cases h : k < ns.length
  · have e1 : ((k : Int) < (ns.length : Int)) := by omega
    have e2 : atI (ns.map D.int) (k : Int) = some (.int ns[k]) := by rw [atI_n]; simp [h]
    refine ⟨⟨ns[k].natAbs, 977 * k + 5⟩, ?_, by show 977 * k + 5 + 2 ^ 50 < 2 ^ 60; omega⟩
    have e3 : (if ns[k] < 0 then -ns[k] else ns[k]) = ((ns[k].natAbs : Nat) : Int) := by omega
    simp [m__law_state, DL.run, e__law_state, m1, e1, e2, stD, e3]
  · have e1 : ¬ ((k : Int) < (ns.length : Int)) := by omega
    refine ⟨⟨0, 977 * k + 5⟩, ?_, by show 977 * k + 5 + 2 ^ 50 < 2 ^ 60; omega⟩
    simp [m__law_state, DL.run, e__law_state, m1, e1, stD]
/-! ### plain data -/
def Pl : D → Bool
  | .scr _ => false
  | .fn _ _ => false
  | .any => false
  | .cls _ => false
  | .obj _ _ => false
  | _ => true
def isI : D → Bool
  | .int _ => true
  | _ => false
@[simp] theorem isI_int (i : Int) : isI (.int i) = true := rfl
@[simp] theorem Pl_int (i : Int) : Pl (.int i) = true := rfl
def rngD (d : D) (lo hi : Int) : Bool := match d with
  | .int i => decide (lo ≤ i) && decide (i ≤ hi)
  | _ => false
theorem rng_int {d : D} {lo hi : Int} (h : rngD d lo hi = true) : ∃ i, d = .int i ∧ lo ≤ i ∧ i ≤ hi := by
  cases d <;> first | (cases h; done) | skip
  rename_i i
  unfold rngD at h
  simp at h
  exact ⟨i, rfl, h.1, h.2⟩
@[simp] theorem rngD_int (i lo hi : Int) : rngD (.int i) lo hi = (decide (lo ≤ i) && decide (i ≤ hi)) := rfl
theorem isI_some {d : D} (h : isI d = true) : ∃ i, d = .int i := by cases d <;> first | (cases h; done) | exact ⟨_, rfl⟩
theorem p_integer (d : D) (h : Pl d = true) : m_is_integer [d] = .ret (.bl (isI d)) none := by
  cases d <;> first | (cases h; done) | simp [m_is_integer, DL.run, e_is_integer, isI]
theorem p_inrange (d : D) (lo hi : Int) (h : Pl d = true) : m_in_range [d, .int lo, .int hi] = .ret (.bl (rngD d lo hi)) none := by
  cases e : isI d with
  | true =>
    obtain ⟨i, rfl⟩ := isI_some e
    simp [m_in_range, DL.run, e_in_range, p_integer (.int i) h]
    by_cases h1 : lo ≤ i <;> simp [h1]
  | false =>
    have : rngD d lo hi = false := by cases d <;> first | (cases e; done) | rfl
    simp [m_in_range, DL.run, e_in_range, p_integer d h, e, this]
@[simp] theorem p_inrangeI (i lo hi : Int) : m_in_range [.int i, .int lo, .int hi] = .ret (.bl (decide (lo ≤ i) && decide (i ≤ hi))) none := p_inrange (.int i) lo hi rfl
theorem atI_some {α : Type} (l : List α) (r : Nat) (h1 : r < l.length) : atI l (r : Int) = some l[r] := by rw [atI_n]; simp [h1]
/-! ### rooms -/
structure Rm where
  L : Nat
  M : Nat
  C : Nat
  S : Nat
structure Rm.Ok (R : Rm) : Prop where
  l1 : 1 ≤ R.L
  l8 : R.L ≤ 8
  m1 : 1 ≤ R.M
  ml : R.M ≤ R.L
  c3 : R.C ≤ 3
  s3 : R.S ≤ 3
  cs : R.C + R.S ≠ 0
def roomD (R : Rm) : D := .obj 25 [("labels", .int R.L), ("most", .int R.M), ("change", .int R.C), ("step", .int R.S)]
def valsD (R : Rm) : D := .lst [.int R.L, .int R.M, .int R.C, .int R.S]
@[simp] theorem room_L (cl : List Nat) (R : Rm) (h : cl.contains 25 = true) : fFld cl "labels" (roomD R) = some (.int R.L) := by simp [roomD]; simpa using h
@[simp] theorem room_M (cl : List Nat) (R : Rm) (h : cl.contains 25 = true) : fFld cl "most" (roomD R) = some (.int R.M) := by simp [roomD]; simpa using h
@[simp] theorem room_C (cl : List Nat) (R : Rm) (h : cl.contains 25 = true) : fFld cl "change" (roomD R) = some (.int R.C) := by simp [roomD]; simpa using h
@[simp] theorem room_S (cl : List Nat) (R : Rm) (h : cl.contains 25 = true) : fFld cl "step" (roomD R) = some (.int R.S) := by simp [roomD]; simpa using h
@[simp] theorem room_T (R : Rm) : tyOf (roomD R) = some (.o 25) := rfl
@[simp] theorem vals_L (R : Rm) : fIx (valsD R) (.int 0) = some (.int R.L) := by simp [valsD]
@[simp] theorem vals_M (R : Rm) : fIx (valsD R) (.int 1) = some (.int R.M) := by simp [valsD]
@[simp] theorem vals_C (R : Rm) : fIx (valsD R) (.int 2) = some (.int R.C) := by simp [valsD]
@[simp] theorem vals_S (R : Rm) : fIx (valsD R) (.int 3) = some (.int R.S) := by simp [valsD]
theorem p_initOk (R : Rm) (h : R.Ok) : m_Room_init [.obj 25 [], .int R.L, .int R.M, .int R.C, .int R.S] = .ret .non (some (roomD R)) := by
  obtain ⟨h1, h2, h3, h4, h5, h6, h7⟩ := h
  have a1 : (1 : Int) ≤ R.L := by omega
  have a2 : (R.L : Int) ≤ 8 := by omega
  have a3 : (1 : Int) ≤ R.M := by omega
  have a4 : (R.M : Int) ≤ R.L := by omega
  have a5 : (R.C : Int) ≤ 3 := by omega
  have a6 : (R.S : Int) ≤ 3 := by omega
  have a7 : ¬ ((R.C : Int) + R.S = 0) := by omega
  simp [m_Room_init, DL.run, e_Room_init, a1, a2, a3, a4, a5, a6, a7, roomD]
def sizesL : List (Nat × Nat) := [(3, 2), (4, 2), (2, 2), (3, 3), (1, 1), (4, 3), (5, 2), (3, 1), (6, 2), (4, 4), (5, 3), (7, 2), (8, 2)]
def szpD (p : Nat × Nat) : D := .tup [.int p.1, .int p.2]
theorem sizes_ok {p : Nat × Nat} (h : p ∈ sizesL) : 1 ≤ p.1 ∧ p.1 ≤ 8 ∧ 1 ≤ p.2 ∧ p.2 ≤ p.1 ∧ p.2 ≤ 4 := by
  have key : (sizesL.all fun p => decide (1 ≤ p.1 ∧ p.1 ≤ 8 ∧ 1 ≤ p.2 ∧ p.2 ≤ p.1 ∧ p.2 ≤ 4)) = true := by decide
  exact of_decide_eq_true (List.all_eq_true.mp key p h)
theorem h_valuesG {n : Nat} (s : DS) (m : Nat) (mi : Int) (hmi : mi = m) (hs : Ok (n + 3) s) (h0 : 0 < m) (h13 : m ≤ 13) :
    ∃ (R : Rm) (s' : DS), m__law_values [stD s, .int mi] = .retF (valsD R) (some (stD s')) ∧ R.Ok ∧ (R.L, R.M) ∈ sizesL ∧ Ok n s' := by
  subst hmi
  obtain ⟨r1, s1, e1, k1, o1⟩ := h_draw (n := n + 2) s m hs (by omega) (by omega)
  obtain ⟨r2, s2, e2, k2, o2⟩ := h_draw (n := n + 1) s1 4 o1 (by decide) (by decide)
  obtain ⟨r3, s3, e3, k3, o3⟩ := h_draw (n := n) s2 4 o2 (by decide) (by decide)
  have h5 : r1 < sizesL.length := by have : sizesL.length = 13 := rfl; omega
  obtain ⟨p, hp, hm⟩ : ∃ p, sizesL[r1] = p ∧ p ∈ sizesL := ⟨_, rfl, List.getElem_mem h5⟩
  have h6 := atI_some (sizesL.map szpD) r1 (by simpa using h5)
  have h7 : (sizesL.map szpD)[r1]'(by simpa using h5) = szpD p := by rw [List.getElem_map, hp]
  rw [h7] at h6
  have h8 : sizesL.map szpD = [.tup [.int 3, .int 2], .tup [.int 4, .int 2], .tup [.int 2, .int 2], .tup [.int 3, .int 3], .tup [.int 1, .int 1], .tup [.int 4, .int 3], .tup [.int 5, .int 2], .tup [.int 3, .int 1], .tup [.int 6, .int 2], .tup [.int 4, .int 4], .tup [.int 5, .int 3], .tup [.int 7, .int 2], .tup [.int 8, .int 2]] := rfl
  rw [h8] at h6
  obtain ⟨g1, g2, g3, g4, g5⟩ := sizes_ok hm
  have x0 : fIx (szpD p) (.int 0) = some (.int p.1) := by simp [szpD]
  have x1 : fIx (szpD p) (.int 1) = some (.int p.2) := by simp [szpD]
  by_cases hz : r2 + r3 = 0
  · have hz2 : ((r2 : Int) + r3 = 0) := by omega
    refine ⟨⟨p.1, p.2, 1, r3⟩, s3, ?_, ⟨g1, g2, g3, g4, (show 1 ≤ 3 by decide), by show r3 ≤ 3; omega, by show 1 + r3 ≠ 0; omega⟩, hm, o3⟩
    generalize szpD p = P at *
    simp [m__law_values, DL.run, e__law_values, e1, e2, e3, h6, x0, x1, hz2, valsD]
  · have hz2 : ¬ ((r2 : Int) + r3 = 0) := by omega
    refine ⟨⟨p.1, p.2, r2, r3⟩, s3, ?_, ⟨g1, g2, g3, g4, by show r2 ≤ 3; omega, by show r3 ≤ 3; omega, by show r2 + r3 ≠ 0; omega⟩, hm, o3⟩
    generalize szpD p = P at *
    simp [m__law_values, DL.run, e__law_values, e1, e2, e3, h6, x0, x1, hz2, valsD]
theorem h_whole (d : D) (h : Pl d = true) : m__law_whole [d] = .ret (.bl (isI d)) none := by
  cases d <;> first | (cases h; done) | simp [m__law_whole, DL.run, e__law_whole, isI]
@[simp] theorem h_wholeI (i : Int) : m__law_whole [.int i] = .ret (.bl true) none := h_whole (.int i) rfl
theorem h_make (R : Rm) (h : R.Ok) : m__law_make [valsD R] = .retF (roomD R) none := by
  have e := p_initOk R h
  simp [m__law_make, DL.run, e__law_make, ar_Room_k0, gpick, e]
theorem p_need_room (R : Rm) : m_need_room [roomD R] = .ret .non none := by
  simp [m_need_room, DL.run, e_need_room]
end Lw
set_option maxRecDepth 100000
set_option maxHeartbeats 4000000
set_option exponentiation.threshold 300
set_option autoImplicit false
namespace Lw
open DL L2
/-! ### standings -/
def natD (n : Nat) : D := .int n
def tupN (row : List Nat) : D := .tup (row.map natD)
def lstT (rows : List (List Nat)) : D := .lst (rows.map tupN)
def okAfter (row : List Nat) (x : Nat) : Bool := match row.getLast? with
  | none => true
  | some y => decide (y < x)
def exts (ls : List Nat) (row : List Nat) : List (List Nat) := (ls.filter (okAfter row)).map fun x => row ++ [x]
def tuplesOf (ls : List Nat) : Nat → List (List Nat)
  | 0 => [[]]
  | n + 1 => (tuplesOf ls n).flatMap (exts ls)
theorem atI_neg1 {α : Type} (l : List α) : atI l (-1) = l.getLast? := by
  rw [List.getLast?_eq_getElem?]
  cases l with
  | nil => rfl
  | cons a l =>
    have h : ixN (a :: l).length (-1) = some ((a :: l).length - 1) := by
      unfold ixN
      simp
      omega
    unfold atI
    rw [h]
    rfl
theorem rangeD0 (n : Nat) : rangeD 0 n = (List.range n).map natD := by
  unfold rangeD natD
  simp
theorem tuplesOf_len (ls : List Nat) (h : ls.length ≤ 8) : ∀ n, (tuplesOf ls n).length ≤ 8 ^ n
  | 0 => by simp [tuplesOf]
  | n + 1 => by
    have ih := tuplesOf_len ls h n
    have key : ∀ rows : List (List Nat), (rows.flatMap (exts ls)).length ≤ rows.length * 8 := fun rows => by
      induction rows with
      | nil => simp
      | cons r rows ih =>
        have h1 : (exts ls r).length ≤ 8 := by
          unfold exts
          rw [List.length_map]
          exact Nat.le_trans (List.length_filter_le _ _) h
        rw [List.flatMap_cons, List.length_append, List.length_cons]
        omega
    have := key (tuplesOf ls n)
    rw [tuplesOf, Nat.pow_succ]
    omega
theorem tuplesOf_row (ls : List Nat) : ∀ n, ∀ r ∈ tuplesOf ls n, r.length = n
  | 0, r, h => by simp [tuplesOf] at h; simp [h]
  | n + 1, r, h => by
    rw [tuplesOf] at h
    obtain ⟨q, h1, h2⟩ := List.mem_flatMap.mp h
    obtain ⟨x, _, rfl⟩ := List.mem_map.mp h2
    rw [List.length_append, tuplesOf_row ls n q h1]
    rfl
theorem okAfter_nil (x : Nat) : okAfter [] x = true := rfl
theorem okAfter_last {row : List Nat} {y : Nat} (h : row.getLast? = some y) (x : Nat) : okAfter row x = decide (y < x) := by unfold okAfter; rw [h]
theorem last_map {row : List Nat} : (row.map natD).getLast? = row.getLast?.map natD := by simp
theorem row_cases (row : List Nat) : row = [] ∨ ∃ y, row.getLast? = some y ∧ row.isEmpty = false ∧ row ≠ [] := by
  cases h : row.getLast? with
  | none => exact .inl (List.getLast?_eq_none_iff.mp h)
  | some y => exact .inr ⟨y, rfl, by cases row <;> simp_all, by cases row <;> simp_all⟩
theorem tu_b1 (d : D) (s1 s2 s3 : Sl) (row : List Nat) (hr : row.length ≤ 100) (x : Nat) (acc : List (List Nat)) (ha : acc.length < 16777216) :
    lb_tuples_of_1 [.va d, s1, s2, s3, .ow (lstT acc), .va (tupN row), .va (natD x)] = .nx [.va d, s1, s2, s3, .ow (lstT (acc ++ if okAfter row x = true then [row ++ [x]] else [])), .va (tupN row), .no] := by
  have hl : row.length + 1 ≤ 16777216 := by omega
  rcases row_cases row with rfl | ⟨y, hy, he, hn⟩
  · simp [lb_tuples_of_1, lstT, tupN, natD, okAfter_nil, ha]
  · have hg : (row.map natD).getLast? = some (.int y) := by rw [last_map, hy]; rfl
    by_cases hx : y < x
    · have hx' : (y : Int) < x := by omega
      simp [lb_tuples_of_1, lstT, tupN, natD, okAfter_last hy, hx, hx', ha, hl, he, hn, atI_neg1, hg, hy]
    · have hx' : ¬ (y : Int) < x := by omega
      simp [lb_tuples_of_1, lstT, tupN, natD, okAfter_last hy, hx, hx', ha, hl, he, hn, atI_neg1, hg, hy]
theorem exts_flat (ls row : List Nat) : (ls.flatMap fun x => if okAfter row x = true then [row ++ [x]] else []) = exts ls row := by
  induction ls with
  | nil => rfl
  | cons x ls ih =>
    rw [List.flatMap_cons, ih]
    unfold exts
    by_cases h : okAfter row x = true
    · rw [if_pos h, List.filter_cons_of_pos h]; rfl
    · rw [if_neg h, List.filter_cons_of_neg h]; rfl
theorem exts_len (ls row : List Nat) : (exts ls row).length ≤ ls.length := by
  unfold exts
  rw [List.length_map]
  exact List.length_filter_le _ _
theorem tu_l1 (d : D) (s1 s2 s3 : Sl) (row : List Nat) (hr : row.length ≤ 100) (ls : List Nat) (acc : List (List Nat)) (h : acc.length + ls.length ≤ 16777216) :
    vLoop (tName 6) lb_tuples_of_1 (ls.map natD) [.va d, s1, s2, s3, .ow (lstT acc), .va (tupN row), .no] = .nx [.va d, s1, s2, s3, .ow (lstT (acc ++ exts ls row)), .va (tupN row), .no] := by
  rw [← exts_flat]
  exact vLoop_app natD (fun acc => [.va d, s1, s2, s3, .ow (lstT acc), .va (tupN row), .no]) _ 16777216 1 (fun a => by split <;> simp) ls acc (by omega) fun x _ acc hacc => ⟨_, rfl, .inl (tu_b1 d s1 s2 s3 row hr x acc (by omega))⟩
theorem tu_l2 (d : D) (ls : List Nat) (hd : itemsOf d = some (ls.map natD)) (hls : ls.length ≤ 8) (rows : List (List Nat)) (h1 : ∀ r ∈ rows, r.length ≤ 100) (h2 : rows.length ≤ 8 ^ 7) :
    vLoop (tName 5) lb_tuples_of_2 (rows.map tupN) [.va d, .no, .no, .no, .ow (lstT []), .no, .no] = .nx [.va d, .no, .no, .no, .ow (lstT (rows.flatMap (exts ls))), .no, .no] :=
  vLoop_app tupN (fun acc => [.va d, .no, .no, .no, .ow (lstT acc), .no, .no]) (exts ls) 16777216 8 (fun a => Nat.le_trans (exts_len ls a) hls) rows [] (by simp; omega) fun r hr acc hacc => ⟨_, rfl, .inl (by
    have e := tu_l1 d .no .no .no r (h1 r hr) ls acc (by omega)
    simp [lb_tuples_of_2, hd, e])⟩
theorem tu_b3 (d it : D) (ls : List Nat) (hd : itemsOf d = some (ls.map natD)) (hls : ls.length ≤ 8) (rows : List (List Nat)) (h1 : ∀ r ∈ rows, r.length ≤ 100) (h2 : rows.length ≤ 8 ^ 7) :
    lb_tuples_of_3 [.va d, .no, .va (lstT rows), .va it, .no, .no, .no] = .nx [.va d, .no, .va (lstT (rows.flatMap (exts ls))), .no, .no, .no, .no] := by
  have e := tu_l2 d ls hd hls rows h1 h2
  have e1 : itemsOf (lstT rows) = some (rows.map tupN) := rfl
  have e2 : D.lst [] = lstT [] := rfl
  simp [lb_tuples_of_3, e1, e2, e]
theorem p_tuples_of (d : D) (ls : List Nat) (hd : itemsOf d = some (ls.map natD)) (hls : ls.length ≤ 8) (n : Nat) (hn : n ≤ 8) : m_tuples_of [d, .int n] = .ret (lstT (tuplesOf ls n)) none := by
  have lp := vLoop_range (g := tName 3) (tb := lb_tuples_of_3) (fun k de => de = [.va d, .no, .va (lstT (tuplesOf ls k)), .no, .no, .no, .no]) n [.va d, .no, .va (lstT [[]]), .no, .no, .no, .no] rfl (fun k hk de hde => by
    subst hde
    have h2 : (tuplesOf ls k).length ≤ 8 ^ 7 := Nat.le_trans (tuplesOf_len ls hls k) (Nat.pow_le_pow_right (by decide) (by omega))
    exact ⟨_, _, rfl, .inl (tu_b3 d _ ls hd hls _ (fun r hr => by rw [tuplesOf_row ls k r hr]; omega) h2), rfl⟩)
  obtain ⟨de, e, rfl⟩ := lp
  have e2 : D.lst [.tup []] = lstT [[]] := rfl
  simp [m_tuples_of, DL.run, e_tuples_of, rngA_n n (by omega), e2, e]
theorem tuplesOf_len7 (ls : List Nat) (h : ls.length ≤ 8) : ∀ n, (tuplesOf ls (n + 1)).length ≤ 8 * 7 ^ n
  | 0 => tuplesOf_len ls h 1
  | n + 1 => by
    have ih := tuplesOf_len7 ls h n
    have key : ∀ rows : List (List Nat), (∀ r ∈ rows, ∃ q x, r = q ++ [x] ∧ x ∈ ls) → (rows.flatMap (exts ls)).length ≤ rows.length * 7 := fun rows => by
      induction rows with
      | nil => simp
      | cons r rows ih =>
        intro hr
        obtain ⟨q, x, rfl, hx⟩ := hr r List.mem_cons_self
        have h1 : (exts ls (q ++ [x])).length ≤ 7 := by
          unfold exts
          rw [List.length_map]
          have : (ls.filter (okAfter (q ++ [x]))).length < ls.length := by
            apply List.length_filter_lt_length_iff_exists.mpr
            exact ⟨x, hx, by simp [okAfter]⟩
          omega
        have h2 := ih fun z hz => hr z (List.mem_cons_of_mem _ hz)
        rw [List.flatMap_cons, List.length_append, List.length_cons]
        omega
    have := key (tuplesOf ls (n + 1)) fun r hr => by
      rw [tuplesOf] at hr
      obtain ⟨q, _, h2⟩ := List.mem_flatMap.mp hr
      obtain ⟨x, hx, rfl⟩ := List.mem_map.mp h2
      exact ⟨q, x, rfl, (List.mem_filter.mp hx).1⟩
    rw [tuplesOf, Nat.pow_succ]
    omega
theorem p_standings1 (R : Rm) (hR : R.Ok) (n : Nat) (hn : n ≤ R.M) : m_standings [roomD R, .int n] = .ret (lstT (tuplesOf (List.range R.L) n)) none := by
  have hr := p_need_room R
  have hM := hR.ml
  have h8 := hR.l8
  have ht := p_tuples_of (.lst ((List.range R.L).map natD)) (List.range R.L) rfl (by simp; omega) n (by omega)
  have a1 : (n : Int) ≤ R.M := by omega
  have a2 : (R.L : Int) ≤ 1000000 := by omega
  have a3 : -1000000 ≤ (R.L : Int) := by omega
  rw [← rangeD0] at ht
  simp [m_standings, DL.run, e_standings, hr, a1, a2, a3, ht]
theorem natD_int' (ps : List Nat) : ps.map natD = (ps.map fun n : Nat => (n : Int)).map D.int := by rw [List.map_map]; rfl
theorem row_nil (row : List Nat) : fEq (tupN row) (.tup []) = some (.bl row.isEmpty) := by
  have h1 : PySem.SeqAt.shaped (toPy (tupN row)) = true := (shp_tup (n := 0) (by rw [natD_int']; exact shp_ints _)).ok (by decide)
  rw [fEq_sh _ _ h1 (by decide +kernel)]
  cases row <;> simp [tupN]
theorem hr_b1 (d : D) (s1 s2 s3 : Sl) (row : List Nat) (hr : row.length ≤ 100) (x : Nat) (acc : List (List Nat)) (ha : acc.length < 16777216) :
    lb__law_rows_1 [.va d, s1, s2, s3, .ow (lstT acc), .va (tupN row), .va (natD x)] = .nx [.va d, s1, s2, s3, .ow (lstT (acc ++ if okAfter row x = true then [row ++ [x]] else [])), .va (tupN row), .no] := by
  have hl : row.length + 1 ≤ 16777216 := by omega
  have e0 := row_nil row
  rcases row_cases row with rfl | ⟨y, hy, he, hn⟩
  · have e0 : fEq (.tup []) (.tup []) = some (.bl true) := e0
    simp [lb__law_rows_1, lstT, tupN, natD, okAfter_nil, ha, e0]
  · have hg : (row.map natD).getLast? = some (.int y) := by rw [last_map, hy]; rfl
    rw [he] at e0
    unfold tupN at e0 ⊢
    by_cases hx : y < x
    · have hx' : (y : Int) < x := by omega
      simp [lb__law_rows_1, lstT, tupN, natD, okAfter_last hy, hx, hx', ha, hl, e0, atI_neg1, hg, hy]
    · have hx' : ¬ (y : Int) < x := by omega
      simp [lb__law_rows_1, lstT, tupN, natD, okAfter_last hy, hx, hx', ha, hl, e0, atI_neg1, hg, hy]
theorem hr_l2 (w : Nat) (hw : w ≤ 8) (s2 : Sl) (rows : List (List Nat)) (h1 : ∀ r ∈ rows, r.length ≤ 100) (h2 : rows.length ≤ 8 ^ 7) :
    vLoop (tName 5) lb__law_rows_2 (rows.map tupN) [.va (.int w), .no, s2, .no, .ow (lstT []), .no, .no] = .nx [.va (.int w), .no, s2, .no, .ow (lstT (rows.flatMap (exts (List.range w)))), .no, .no] :=
  vLoop_app tupN (fun acc => [.va (.int w), .no, s2, .no, .ow (lstT acc), .no, .no]) (exts (List.range w)) 16777216 8 (fun a => Nat.le_trans (exts_len _ a) (by simp; omega)) rows [] (by simp; omega) fun r hr acc hacc => ⟨_, rfl, .inl (by
    have e : vLoop (tName 6) lb__law_rows_1 (rangeD 0 w) [.va (.int w), .no, s2, .no, .ow (lstT acc), .va (tupN r), .no] = .nx [.va (.int w), .no, s2, .no, .ow (lstT (acc ++ exts (List.range w) r)), .va (tupN r), .no] := by
      rw [← exts_flat, rangeD0]
      exact vLoop_app natD (fun acc => [.va (.int w), .no, s2, .no, .ow (lstT acc), .va (tupN r), .no]) _ 16777216 1 (fun a => by split <;> simp) _ acc (by simp; omega) fun x _ acc hacc => ⟨_, rfl, .inl (hr_b1 _ .no s2 .no r (h1 r hr) x acc (by omega))⟩
    simp [lb__law_rows_2, rngA_n w (by omega), e])⟩
theorem h_rows (w n : Nat) (hw : w ≤ 8) (hn : n ≤ 8) : m__law_rows [.int w, .int n] = .ret (lstT (tuplesOf (List.range w) n)) none := by
  have lp := vLoop_range (g := tName 3) (tb := lb__law_rows_3) (fun k de => de = [.va (.int w), .no, .va (lstT (tuplesOf (List.range w) k)), .no, .no, .no, .no]) n [.va (.int w), .no, .va (lstT [[]]), .no, .no, .no, .no] rfl (fun k hk de hde => by
    subst hde
    have h2 : (tuplesOf (List.range w) k).length ≤ 8 ^ 7 := Nat.le_trans (tuplesOf_len _ (by simp; omega) k) (Nat.pow_le_pow_right (by decide) (by omega))
    have e := hr_l2 w hw .no (tuplesOf (List.range w) k) (fun r hr => by rw [tuplesOf_row _ k r hr]; omega) h2
    have e1 : itemsOf (lstT (tuplesOf (List.range w) k)) = some ((tuplesOf (List.range w) k).map tupN) := rfl
    have e2 : D.lst [] = lstT [] := rfl
    exact ⟨_, _, rfl, .inl (by simp [lb__law_rows_3, e1, e2, e]; rfl), rfl⟩)
  obtain ⟨de, e, rfl⟩ := lp
  have e2 : D.lst [.tup []] = lstT [[]] := rfl
  simp [m__law_rows, DL.run, e__law_rows, rngA_n n (by omega), e2, e]
end Lw
set_option maxRecDepth 100000
set_option maxHeartbeats 4000000
set_option exponentiation.threshold 300
set_option autoImplicit false
namespace Lw
open DL L2
/-! ### what a standing is -/
theorem mem_tuplesOf (ls : List Nat) (n : Nat) : ∀ row : List Nat, row.length = n → row.Pairwise (· < ·) → (∀ x ∈ row, x ∈ ls) → row ∈ tuplesOf ls n := by
  induction n with
  | zero =>
    intro row h _ _
    have : row = [] := List.length_eq_zero_iff.mp h
    simp [this, tuplesOf]
  | succ n ih =>
    intro row h hp hm
    have hne : row ≠ [] := fun e => by rw [e] at h; cases h
    obtain ⟨q, x, e⟩ : ∃ q x, row = q ++ [x] := ⟨row.dropLast, row.getLast hne, (List.dropLast_concat_getLast hne).symm⟩
    subst e
    rw [List.length_append] at h
    have hq : q ∈ tuplesOf ls n := ih q (by simpa using h) (List.pairwise_append.mp hp).1 fun y hy => hm y (List.mem_append_left _ hy)
    refine List.mem_flatMap.mpr ⟨q, hq, List.mem_map.mpr ⟨x, List.mem_filter.mpr ⟨hm x (by simp), ?_⟩, rfl⟩⟩
    rcases row_cases q with rfl | ⟨y, hy, _, _⟩
    · rfl
    · rw [okAfter_last hy]
      have := (List.pairwise_append.mp hp).2.2 y (List.mem_of_getLast? hy) x (by simp)
      simpa using this
structure Std (R : Rm) (row : List Nat) : Prop where
  up : row.Pairwise (· < ·)
  lt : ∀ x ∈ row, x < R.L
  sz : row.length ≤ R.M
@[simp] theorem len_tupN (row : List Nat) : fLen [tupN row] = some (.int row.length) := by simp [tupN]
@[simp] theorem ty_tupN (row : List Nat) : tyOf (tupN row) = some (.b "tuple") := rfl
@[simp] theorem items_tupN (row : List Nat) : itemsOf (tupN row) = some (row.map natD) := rfl
theorem Std.lt1000 {R : Rm} (hR : R.Ok) {row : List Nat} (h : Std R row) : ∀ x ∈ row, x < 1000 := fun x hx => by
  have h1 := h.lt x hx
  have h2 := hR.l8
  omega
/-! ### the price of a coming -/
def nw (fo : List Nat) (g k : Nat) : Nat := fo.getD (if k < g then k else k + 1) 0
def cst (R : Rm) (a b : Nat) : Nat := if a = b then 0 else R.C + R.S * ((a : Int) - b).natAbs
def mpTo (R : Rm) (row : List Nat) (g : Nat) (fo : List Nat) : Nat → Nat
  | 0 => 0
  | k + 1 => mpTo R row g fo k + cst R (nw fo g k) (row.getD k 0)
def mp (R : Rm) (row : List Nat) (g : Nat) (fo : List Nat) : Nat := mpTo R row g fo row.length
theorem tupN_at (row : List Nat) (k : Nat) (h : k < row.length) : fIx (tupN row) (.int k) = some (.int (row.getD k 0)) := by
  simp [tupN, atI_n, natD, List.getD_eq_getElem?_getD, h]
theorem tupN_atI (row : List Nat) (k : Nat) (j : Int) (hj : j = k) (h : k < row.length) : fIx (tupN row) (.int j) = some (.int (row.getD k 0)) := by
  rw [hj]; exact tupN_at row k h
theorem getD_lt {row : List Nat} {B : Nat} (h : ∀ x ∈ row, x < B) {k : Nat} (hk : k < row.length) : row.getD k 0 < B := by
  rw [List.getD_eq_getElem?_getD]
  simp [hk]
  exact h _ (List.getElem_mem hk)
theorem cst_int (R : Rm) (a b : Nat) (h : ¬ (a : Int) = b) : ((cst R a b : Nat) : Int) = R.C + R.S * (if (a : Int) - b < 0 then -((a : Int) - b) else (a : Int) - b) := by
  have hn : ¬ a = b := by omega
  have e : (if (a : Int) - b < 0 then -((a : Int) - b) else (a : Int) - b) = (((a : Int) - b).natAbs : Nat) := by split <;> omega
  rw [e, cst, if_neg hn]
  push_cast
  rfl
theorem p_move_price (R : Rm) (hR : R.Ok) (row fo : List Nat) (g : Nat) (gi : Int) (hgi : gi = g) (hl : fo.length = row.length + 1) (hr : ∀ x ∈ row, x < 1000) (hf : ∀ x ∈ fo, x < 1000) :
    m_move_price [roomD R, tupN row, .int gi, tupN fo] = .ret (.int (mp R row g fo)) none := by
  subst hgi
  have lp := vLoop_idx (g := tgTup 2 (tgCons (tName 5) (tgCons (tName 6) tgNil))) (tb := lb_move_price_1) (I := fun k de => de = [.va (roomD R), .no, .va (.int g), .va (tupN fo), .va (.int (mpTo R row g fo k)), .no, .no, .no]) (enumD 0 (row.map natD)) 0 [.va (roomD R), .no, .va (.int g), .va (tupN fo), .va (.int 0), .no, .no, .no] rfl (fun k d hd de hde => by
    subst hde
    rw [enumD_get] at hd
    have hk : k < row.length := by
      rcases Nat.lt_or_ge k row.length with h | h
      · exact h
      · rw [List.getElem?_eq_none (by simpa using h)] at hd
        cases hd
    have hd : d = .tup [.int k, .int (row.getD k 0)] := by
      rw [List.getElem?_map, List.getElem?_eq_getElem hk] at hd
      simp at hd
      rw [← hd, List.getD_eq_getElem?_getD]
      simp [hk, natD]
    subst hd
    have hb := getD_lt hr hk
    have hx : (if k < g then k else k + 1) < fo.length := by split <;> omega
    have hb2 : nw fo g k < 1000 := getD_lt hf hx
    have ei : fIx (tupN fo) (.int (if k < g then (k : Int) else k + 1)) = some (.int (nw fo g k)) := tupN_atI fo _ _ (by split <;> omega) hx
    refine ⟨_, _, rfl, .inl ?_, rfl⟩
    simp only [Nat.zero_add]
    generalize hn : nw fo g k = a at *
    generalize hq : row.getD k 0 = b at *
    have em : mpTo R row g fo (k + 1) = mpTo R row g fo k + cst R a b := by rw [mpTo, hn, hq]
    rw [em]
    generalize mpTo R row g fo k = t
    have hc3 := hR.s3
    have mm : cMul R.S (if (a : Int) - b < 0 then -((a : Int) - b) else (a : Int) - b) = true := cMul_ok (by omega) (by split <;> omega)
    by_cases hkg : k < g
    · have hkg' : (k : Int) < g := by omega
      rw [if_pos hkg] at ei
      by_cases hab : (a : Int) = b
      · have : cst R a b = 0 := by simp [cst]; omega
        simp [lb_move_price_1, hkg', ei, hab, this]
      · have := cst_int R a b hab
        simp [lb_move_price_1, hkg', ei, hab, this, mm]
    · have hkg' : ¬ (k : Int) < g := by omega
      rw [if_neg hkg] at ei
      by_cases hab : (a : Int) = b
      · have : cst R a b = 0 := by simp [cst]; omega
        simp [lb_move_price_1, hkg', ei, hab, this]
      · have := cst_int R a b hab
        simp [lb_move_price_1, hkg', ei, hab, this, mm])
  obtain ⟨de, e, rfl⟩ := lp
  rw [enumD_len, List.length_map, Nat.zero_add] at e
  simp [m_move_price, DL.run, e_move_price, e, mp]
theorem h_price (R : Rm) (hR : R.Ok) (row fo : List Nat) (g : Nat) (gi : Int) (hgi : gi = g) (hl : fo.length = row.length + 1) (hr : ∀ x ∈ row, x < 1000) (hf : ∀ x ∈ fo, x < 1000) (hrl : row.length ≤ 1000) :
    m__law_price [valsD R, tupN row, .int gi, tupN fo] = .ret (.int (mp R row g fo)) none := by
  subst hgi
  have lp := vLoop_range (g := tName 5) (tb := lb__law_price_1) (fun k de => de = [.va (valsD R), .va (tupN row), .va (.int g), .va (tupN fo), .va (.int (mpTo R row g fo k)), .no, .no]) row.length [.va (valsD R), .va (tupN row), .va (.int g), .va (tupN fo), .va (.int 0), .no, .no] rfl (fun k hk de hde => by
    subst hde
    have hb := getD_lt hr hk
    have hx : (if k < g then k else k + 1) < fo.length := by split <;> omega
    have hb2 : nw fo g k < 1000 := getD_lt hf hx
    have er := tupN_at row k hk
    have ei : fIx (tupN fo) (.int (if k < g then (k : Int) else k + 1)) = some (.int (nw fo g k)) := tupN_atI fo _ _ (by split <;> omega) hx
    refine ⟨_, _, rfl, .inl ?_, rfl⟩
    generalize hn : nw fo g k = a at *
    generalize hq : row.getD k 0 = b at *
    have em : mpTo R row g fo (k + 1) = mpTo R row g fo k + cst R a b := by rw [mpTo, hn, hq]
    rw [em]
    generalize mpTo R row g fo k = t
    have hc3 := hR.s3
    have mm : cMul R.S (if (a : Int) - b < 0 then -((a : Int) - b) else (a : Int) - b) = true := cMul_ok (by omega) (by split <;> omega)
    by_cases hkg : k < g
    · have hkg' : ¬ (g : Int) ≤ k := by omega
      rw [if_pos hkg] at ei
      by_cases hab : (a : Int) = b
      · have : cst R a b = 0 := by simp [cst]; omega
        simp [lb__law_price_1, hkg', er, ei, hab, this]
      · have := cst_int R a b hab
        simp [lb__law_price_1, hkg', er, ei, hab, this, mm, Int.add_assoc]
    · have hkg' : (g : Int) ≤ k := by omega
      rw [if_neg hkg] at ei
      by_cases hab : (a : Int) = b
      · have : cst R a b = 0 := by simp [cst]; omega
        simp [lb__law_price_1, hkg', er, ei, hab, this]
      · have := cst_int R a b hab
        simp [lb__law_price_1, hkg', er, ei, hab, this, mm, Int.add_assoc])
  obtain ⟨de, e, rfl⟩ := lp
  have er := rngA_n row.length (by omega)
  simp [m__law_price, DL.run, e__law_price, er, e, mp]
end Lw
set_option maxRecDepth 100000
set_option maxHeartbeats 4000000
set_option exponentiation.threshold 300
set_option autoImplicit false
set_option maxRecDepth 100000
set_option maxHeartbeats 4000000
set_option exponentiation.threshold 300
set_option autoImplicit false
namespace Lw
open DL L2
/-! ### what repr says of a list -/
def okS (d : D) : Bool := match toR d with
  | some p => p.showable && decide (p.shown.length ≤ 1000) && decide (p.depth ≤ 50) && PySem.PyData.strOk p.shown
  | none => false
/-! ### parts of a standing -/
theorem natD_int (ps : List Nat) : ps.map natD = (ps.map fun n : Nat => (n : Int)).map D.int := by rw [List.map_map]; rfl
theorem f_in (k : Nat) (ps : List Nat) : fIn (.int k) (.lst (ps.map natD)) = some (.bl (decide (k ∈ ps))) := by
  have h1 : PySem.SeqAt.shaped (toPy (.int k)) = true := rfl
  have h2 : PySem.SeqAt.shaped (toPy (.lst (ps.map natD))) = true := (shp_lst (n := 0) (by rw [natD_int]; exact shp_ints _)).ok (by decide)
  have h3 : (toPys (ps.map natD)).any (fun z => PySem.PyData.eqv z (toPy (.int k))) = decide (k ∈ ps) := by
    clear h2
    induction ps with
    | nil => rfl
    | cons p ps ih =>
      have e : toPys ((p :: ps).map natD) = .int p :: toPys (ps.map natD) := rfl
      rw [e, List.any_cons, ih]
      have e2 : PySem.PyData.eqv (.int p) (toPy (.int k)) = decide (k = p) := by
        by_cases hh : k = p <;> simp [PySem.PyData.eqv, toPy, hh] <;> omega
      rw [e2]
      by_cases hh : k = p <;> by_cases hp : k ∈ ps <;> simp [hh, hp]
  show (if _ then _ else _) = _
  have h2' : PySem.SeqAt.shaped (.list (toPys (ps.map natD))) = true := h2
  rw [h1, h2', h3]
  rfl
end Lw
set_option maxRecDepth 100000
set_option maxHeartbeats 4000000
set_option exponentiation.threshold 300
set_option autoImplicit false
namespace Lw
open DL L2
/-! ### runs -/
structure En where
  inn : Bool
  p : Nat
  row : List Nat
def wayS (b : Bool) : PySem.Str := if b then "in" else "out"
def deedD (e : En) : D := .tup [.str (wayS e.inn), .int e.p]
def enD (e : En) : D := .tup [deedD e, tupN e.row]
def wo (row : List Nat) (p : Nat) : List Nat := row.take p ++ row.drop (p + 1)
structure Fits (R : Rm) (row : List Nat) (e : En) : Prop where
  std : Std R e.row
  h : if e.inn = true then row.length < R.M ∧ e.p ≤ row.length ∧ e.row.length = row.length + 1 else e.p < row.length ∧ e.row = wo row e.p
theorem wo_len {row : List Nat} {p : Nat} (h : p < row.length) : (wo row p).length = row.length - 1 := by unfold wo; simp; omega
theorem wo_sub {row : List Nat} {p : Nat} : ∀ x ∈ wo row p, x ∈ row := fun x hx => (List.mem_append.mp hx).elim List.mem_of_mem_take List.mem_of_mem_drop
theorem wo_std {R : Rm} {row : List Nat} (h : Std R row) (p : Nat) : Std R (wo row p) := by
  refine ⟨?_, fun x hx => h.lt x (wo_sub x hx), ?_⟩
  · have : (wo row p).Sublist row := by
      unfold wo
      have h1 : (row.take p ++ row.drop (p + 1)).Sublist (row.take p ++ row.drop p) := List.Sublist.append (List.Sublist.refl _) (by
        rw [← List.drop_drop]
        exact List.drop_sublist _ _)
      rwa [List.take_append_drop] at h1
    exact List.Pairwise.sublist this h.up
  · have := h.sz
    unfold wo
    simp
    omega
@[simp] theorem deed_0 (e : En) : fIx (deedD e) (.int 0) = some (.str (wayS e.inn)) := by simp [deedD]
@[simp] theorem deed_1 (e : En) : fIx (deedD e) (.int 1) = some (.int e.p) := by simp [deedD]
@[simp] theorem deed_len (e : En) : fLen [deedD e] = some (.int 2) := by simp [deedD]
@[simp] theorem deed_ty (e : En) : tyOf (deedD e) = some (.b "tuple") := rfl
@[simp] theorem en_0 (e : En) : fIx (enD e) (.int 0) = some (deedD e) := by simp [enD]
@[simp] theorem en_1 (e : En) : fIx (enD e) (.int 1) = some (tupN e.row) := by simp [enD]
@[simp] theorem en_len (e : En) : fLen [enD e] = some (.int 2) := by simp [enD]
@[simp] theorem en_ty (e : En) : tyOf (enD e) = some (.b "tuple") := rfl
theorem bl_congr {a b : Bool} (h : a = b) : some (D.bl a) = some (D.bl b) := by rw [h]
theorem way_in (b : Bool) : fEq (.str (wayS b)) (.str "in") = some (.bl b) := by
  cases b
  · exact (fEq_sh _ _ (by decide +kernel) (by decide +kernel)).trans (bl_congr (by decide +kernel))
  · exact (fEq_sh _ _ (by decide +kernel) (by decide +kernel)).trans (bl_congr (by decide +kernel))
theorem way_out (b : Bool) : fEq (.str (wayS b)) (.str "out") = some (.bl (!b)) := by
  cases b
  · exact (fEq_sh _ _ (by decide +kernel) (by decide +kernel)).trans (bl_congr (by decide +kernel))
  · exact (fEq_sh _ _ (by decide +kernel) (by decide +kernel)).trans (bl_congr (by decide +kernel))
theorem sl_to (row : List Nat) (p : Nat) : fSlA (tupN row) none (some (p : Int)) = some (tupN (row.take p)) := by unfold tupN; rw [ps240, cut_to, List.map_take]
theorem sl_from1 (row : List Nat) (p : Nat) : fSlA (tupN row) (some ((p : Int) + 1)) none = some (tupN (row.drop (p + 1))) := by unfold tupN; rw [ps240, cut_from1, List.map_drop]
theorem add_tupN (a b : List Nat) (h : a.length + b.length ≤ 16777216) : fAdd (tupN a) (tupN b) = some (tupN (a ++ b)) := by
  unfold tupN
  rw [ps80, if_pos (by rw [List.length_map, List.length_map]; exact h), List.map_append]
theorem add_wo (row : List Nat) (p : Nat) (h : row.length ≤ 1000) : fAdd (tupN (row.take p)) (tupN (row.drop (p + 1))) = some (tupN (wo row p)) := add_tupN _ _ (by simp; omega)
theorem p_without (row : List Nat) (p : Nat) (h : row.length ≤ 1000) : m_without [tupN row, .int p] = .ret (tupN (wo row p)) none := by
  have e1 := sl_to row p
  have e2 := sl_from1 row p
  have e3 := add_wo row p h
  simp [m_without, DL.run, e_without, e1, e2, e3]
theorem p_paid_for (R : Rm) (hR : R.Ok) (row : List Nat) (hs : Std R row) (e : En) (h : Fits R row e) (hi : e.inn = true) : m_paid_for [roomD R, tupN row, deedD e, tupN e.row] = .ret (.int (mp R row e.p e.row)) none := by
  obtain ⟨h1, h2⟩ := h
  have w2 := way_out e.inn
  rw [hi] at w2
  rw [if_pos hi] at h2
  have e3 := p_move_price R hR row e.row e.p e.p rfl h2.2.2 (hs.lt1000 hR) (h1.lt1000 hR)
  simp [m_paid_for, DL.run, e_paid_for, hi, w2, e3]
def pricesD (ps : List Nat) : D := .lst (ps.map natD)
def sumN (ps : List Nat) : Nat := ps.foldr (· + ·) 0
def recD (ps row : List Nat) : D := .obj 26 [("prices", pricesD ps), ("total", .int (sumN ps)), ("standing", tupN row), ("size", .int row.length)]
@[simp] theorem rec_p (cl : List Nat) (ps row : List Nat) (h : cl.contains 26 = true) : fFld cl "prices" (recD ps row) = some (pricesD ps) := by simp [recD]; simpa using h
@[simp] theorem rec_t (cl : List Nat) (ps row : List Nat) (h : cl.contains 26 = true) : fFld cl "total" (recD ps row) = some (.int (sumN ps)) := by simp [recD]; simpa using h
@[simp] theorem rec_s (cl : List Nat) (ps row : List Nat) (h : cl.contains 26 = true) : fFld cl "standing" (recD ps row) = some (tupN row) := by simp [recD]; simpa using h
@[simp] theorem rec_z (cl : List Nat) (ps row : List Nat) (h : cl.contains 26 = true) : fFld cl "size" (recD ps row) = some (.int row.length) := by simp [recD]; simpa using h
@[simp] theorem rec_ty (ps row : List Nat) : tyOf (recD ps row) = some (.o 26) := rfl
@[simp] theorem pr_ty (ps : List Nat) : tyOf (pricesD ps) = some (.b "list") := rfl
@[simp] theorem pr_len (ps : List Nat) : fLen [pricesD ps] = some (.int ps.length) := by simp [pricesD]
def runD (es : List En) : D := .lst (es.map enD)
@[simp] theorem run_len (es : List En) : fLen [runD es] = some (.int es.length) := by simp [runD]
@[simp] theorem run_ty (es : List En) : tyOf (runD es) = some (.b "list") := rfl
@[simp] theorem run_items (es : List En) : itemsOf (runD es) = some (es.map enD) := rfl
@[simp] theorem run_lst (es : List En) : isLst (runD es) = true := rfl
theorem fits_in {R : Rm} {row row2 : List Nat} (hs : Std R row2) (p : Nat) (h : row.length < R.M) (hp : p ≤ row.length) (hl : row2.length = row.length + 1) : Fits R row ⟨true, p, row2⟩ := ⟨hs, by
  have : ((⟨true, p, row2⟩ : En).inn = true) := rfl
  rw [if_pos this]
  exact ⟨h, hp, hl⟩⟩
theorem shp_tupN (row : List Nat) : Shp 1 (tupN row) := shp_tup (n := 0) (by rw [natD_int]; exact shp_ints _)
end Lw
set_option maxRecDepth 100000
set_option maxHeartbeats 4000000
set_option exponentiation.threshold 300
set_option autoImplicit false
namespace Lw
open DL L2
/-! ### keys -/
abbrev Ky := List Nat × Nat
def kyD (k : Ky) : D := .tup [tupN k.1, .int k.2]
def nky (k : Ky) : PySem.NestedKey := .tup [.tup (k.1.map fun n : Nat => .num n), .num k.2]
theorem keyDs_nat : ∀ l : List Nat, keyDs (l.map natD) = some (l.map fun n : Nat => .num n)
  | [] => rfl
  | n :: l => by
    rw [List.map_cons, keyDs, keyDs_nat l]
    rfl
theorem num_ok (l : List Nat) : noTs (l.map fun n : Nat => PySem.NestedKey.num n) = true ∧ PySem.NestedKey.depthAll (l.map fun n : Nat => PySem.NestedKey.num n) = 0 := by
  induction l with
  | nil => exact ⟨rfl, rfl⟩
  | cons n l ih =>
    refine ⟨?_, ?_⟩
    · rw [List.map_cons, noTs, ih.1]; rfl
    · rw [List.map_cons, PySem.NestedKey.depthAll, ih.2]; rfl
theorem nky_ok (k : Ky) : okK (nky k) = true := by
  obtain ⟨h1, h2⟩ := num_ok k.1
  unfold okK nky
  simp [noT, noTs, h1, PySem.NestedKey.depth, PySem.NestedKey.depthAll, h2]
@[simp] theorem ky_key (k : Ky) : keyN (kyD k) = some (nky k) := by
  have e : keyDs [tupN k.1, .int k.2] = some [.tup (k.1.map fun n : Nat => .num n), .num k.2] := by
    unfold tupN
    simp [keyDs, keyD, keyDs_nat]
  have ok := nky_ok k
  unfold kyD keyN
  dsimp only
  rw [e]
  show (if okK (nky k) = true then some (nky k) else none) = _
  rw [if_pos ok]
theorem num_inj : ∀ {a b : List Nat}, (a.map fun n : Nat => PySem.NestedKey.num n) = (b.map fun n : Nat => PySem.NestedKey.num n) → a = b
  | [], [], _ => rfl
  | [], _ :: _, h => by simp at h
  | _ :: _, [], h => by simp at h
  | x :: a, y :: b, h => by
    simp only [List.map_cons, List.cons.injEq, PySem.NestedKey.num.injEq] at h
    rw [num_inj h.2]
    congr 1
    omega
theorem nky_inj {a b : Ky} (h : nky a = nky b) : a = b := by
  unfold nky at h
  simp only [PySem.NestedKey.tup.injEq, List.cons.injEq, PySem.NestedKey.num.injEq, and_true] at h
  obtain ⟨h1, h2⟩ := h
  have := num_inj h1
  obtain ⟨a1, a2⟩ := a
  obtain ⟨b1, b2⟩ := b
  simp only at this h2
  subst this
  congr 1
  omega
@[simp] theorem ky_0 (k : Ky) : fIx (kyD k) (.int 0) = some (tupN k.1) := by simp [kyD]
@[simp] theorem ky_1 (k : Ky) : fIx (kyD k) (.int 1) = some (.int k.2) := by simp [kyD]
@[simp] theorem ky_ty (k : Ky) : tyOf (kyD k) = some (.b "tuple") := rfl
@[simp] theorem ky_len (k : Ky) : fLen [kyD k] = some (.int 2) := by simp [kyD]
/-! ### tables: next standings by key -/
abbrev Tb := List (Ky × List Nat)
def ents (t : Tb) : List (D × D) := t.map fun e => (kyD e.1, tupN e.2)
def tabD (t : Tb) : D := .dn (ents t)
def lk : Tb → Ky → Option (List Nat)
  | [], _ => none
  | e :: t, k => if e.1 = k then some e.2 else lk t k
def put : Tb → Ky → List Nat → Tb
  | [], k, v => [(k, v)]
  | e :: t, k, v => if e.1 = k then (e.1, v) :: t else e :: put t k v
theorem nky_eq (a b : Ky) : (keyN (kyD a) = some (nky b)) ↔ (a = b) := by
  rw [ky_key]
  exact ⟨fun h => nky_inj (Option.some.inj h), fun h => by rw [h]⟩
theorem valN_lk (k : Ky) : ∀ t : Tb, valN (ents t) (nky k) = (lk t k).map tupN
  | [] => rfl
  | e :: t => by
    show (if keyN (kyD e.1) = some (nky k) then some (tupN e.2) else valN (ents t) (nky k)) = _
    rw [valN_lk k t]
    show _ = Option.map tupN (if e.1 = k then some e.2 else lk t k)
    by_cases h : e.1 = k
    · rw [if_pos h, if_pos ((nky_eq e.1 k).mpr h)]; rfl
    · rw [if_neg h, if_neg (fun z => h ((nky_eq e.1 k).mp z))]
@[simp] theorem tab_ix0 (t : Tb) (b : D) : fIx (tabD t) b = none := Eq.trans rfl rfl
@[simp] theorem tab_ix (t : Tb) (k : Ky) : orIx none (tabD t) (kyD k) = (lk t k).map tupN := by
  show (keyN (kyD k)).bind (fun k => valN (ents t) k) = _
  rw [ky_key]
  exact valN_lk k t
@[simp] theorem tab_in0 (t : Tb) (x : D) : fIn x (tabD t) = none := Eq.trans rfl rfl
@[simp] theorem tab_nin0 (t : Tb) (x : D) : fNotIn x (tabD t) = none := Eq.trans rfl rfl
@[simp] theorem tab_in (t : Tb) (k : Ky) (g : Bool → Bool) : orIn g none (kyD k) (tabD t) = some (.bl (g (lk t k).isSome)) := by
  show (keyN (kyD k)).map (fun k => D.bl (g (valN (ents t) k).isSome)) = _
  rw [ky_key, Option.map_some, valN_lk, Option.isSome_map]
@[simp] theorem tab_it0 (t : Tb) : itemsOf (tabD t) = none := Eq.trans rfl rfl
@[simp] theorem tab_it (t : Tb) : orIt none (tabD t) = some (t.map fun e => kyD e.1) := by
  show some ((ents t).map (·.1)) = _
  unfold ents
  rw [List.map_map]
  rfl
@[simp] theorem tab_ty (t : Tb) : tyOf (tabD t) = some (.b "dict") := Eq.trans rfl rfl
/-! ### all keys of a room -/
theorem tuplesOf_std (ls : List Nat) : ∀ n, ∀ r ∈ tuplesOf ls n, r.Pairwise (· < ·) ∧ ∀ x ∈ r, x ∈ ls
  | 0, r, h => by
    simp [tuplesOf] at h
    subst h
    exact ⟨List.Pairwise.nil, by simp⟩
  | n + 1, r, h => by
    rw [tuplesOf] at h
    obtain ⟨q, h1, h2⟩ := List.mem_flatMap.mp h
    obtain ⟨x, hx, rfl⟩ := List.mem_map.mp h2
    obtain ⟨g1, g2⟩ := tuplesOf_std ls n q h1
    obtain ⟨hx1, hx2⟩ := List.mem_filter.mp hx
    refine ⟨List.pairwise_append.mpr ⟨g1, by simp, fun a ha b hb => ?_⟩, fun y hy => ?_⟩
    · rw [List.mem_singleton.mp hb]
      rcases row_cases q with rfl | ⟨y, hy, _, _⟩
      · simp at ha
      · rw [okAfter_last hy] at hx2
        have h3 : y < x := of_decide_eq_true hx2
        have h4 : a ≤ y := by
          obtain ⟨l, rfl⟩ := List.getLast?_eq_some_iff.mp hy
          rcases List.mem_append.mp ha with ha | ha
          · exact Nat.le_of_lt ((List.pairwise_append.mp g1).2.2 a ha y (by simp))
          · rw [List.mem_singleton.mp ha]; exact Nat.le_refl _
        omega
    · rcases List.mem_append.mp hy with hy | hy
      · exact g2 y hy
      · rw [List.mem_singleton.mp hy]; exact hx1
def ruleD (R : Rm) (t : Tb) : D := .obj 27 [("room", roomD R), ("chosen", tabD t)]
@[simp] theorem rule_room (cl : List Nat) (R : Rm) (t : Tb) (h : cl.contains 27 = true) : fFld cl "room" (ruleD R t) = some (roomD R) := by simp [ruleD]; simpa using h
@[simp] theorem rule_chosen (cl : List Nat) (R : Rm) (t : Tb) (h : cl.contains 27 = true) : fFld cl "chosen" (ruleD R t) = some (tabD t) := by simp [ruleD]; simpa using h
@[simp] theorem rule_ty (R : Rm) (t : Tb) : tyOf (ruleD R t) = some (.o 27) := rfl
@[simp] theorem rule_isC (R : Rm) (t : Tb) : isC 27 (ruleD R t) = true := rfl
/-- what a rule takes over of a table -/
def take (t : Tb) (ks : List Ky) (acc : Tb) : Tb := ks.foldl (fun acc k => put acc k ((lk t k).getD [])) acc
end Lw
set_option maxRecDepth 100000
set_option maxHeartbeats 4000000
set_option exponentiation.threshold 300
set_option autoImplicit false
namespace Lw
open DL L2
def okX : D → Bool
  | .str w => PySem.PyData.strOk w
  | d => Pl d
def okDd : D → Bool
  | .tup xs => xs.all okX
  | d => Pl d
theorem okX_pl {d : D} (h : okX d = true) : Pl d = true := by cases d <;> first | rfl | exact h
def sIn : PySem.Str := "in"
def sOut : PySem.Str := "out"
def fitB (M n : Nat) : D → Bool
  | .tup [.str w, b] => if w = sIn then decide (n < M) && rngD b 0 n else decide (w = sOut) && rngD b 0 ((n : Int) - 1)
  | _ => false
def isIn : D → Bool
  | .tup (.str w :: _) => decide (w = sIn)
  | _ => false
theorem eqv_str (a b : PySem.Str) : PySem.PyData.eqv (.str a) (.str b) = decide (a = b) := by rw [PySem.PyData.eqv]; by_cases h : a = b <;> simp [h]
theorem sh_str {w : PySem.Str} (h : PySem.PyData.strOk w = true) : PySem.SeqAt.shaped (toPy (.str w)) = true := by
  show PySem.SeqAt.shaped (.str w) = true
  simp [PySem.SeqAt.shaped, PySem.PyData.canLay0, h, PySem.PyData.depth]
theorem wayW_in {w : PySem.Str} (h : PySem.PyData.strOk w = true) : fEq (.str w) (.str "in") = some (.bl (decide (w = sIn))) :=
  (fEq_sh _ _ (sh_str h) (by decide +kernel)).trans (bl_congr (eqv_str w sIn))
theorem wayW_out {w : PySem.Str} (h : PySem.PyData.strOk w = true) : fEq (.str w) (.str "out") = some (.bl (decide (w = sOut))) :=
  (fEq_sh _ _ (sh_str h) (by decide +kernel)).trans (bl_congr (eqv_str w sOut))
theorem in_out : ¬ sOut = sIn := by decide +kernel
theorem p_fits15 (R : Rm) (n : Nat) (d : D) (hd : okDd d = true) : m_deed_fits [roomD R, .int n, d] = .ret (.bl (fitB R.M n d)) none := by
  cases d with
  | tup xs =>
    match xs, hd with
    | [], _ => simp [m_deed_fits, DL.run, e_deed_fits, fitB]
    | [a], _ => simp [m_deed_fits, DL.run, e_deed_fits, fitB]
    | a :: b :: c :: r, _ =>
      have h : ¬ ((r.length : Int) + 1 + 1 + 1 = 2) := by omega
      simp [m_deed_fits, DL.run, e_deed_fits, fitB, h]
    | [a, b], hd =>
      have ha : okX a = true := by have := hd; simp [okDd] at this; exact this.1
      have hb : Pl b = true := by have := hd; simp [okDd] at this; exact okX_pl this.2
      cases a with
      | str w =>
        have w1 := wayW_in ha
        have w2 := wayW_out ha
        have r1 := p_inrange b 0 n hb
        have r2 := p_inrange b 0 ((n : Int) - 1) hb
        have hn : ((n : Int) < R.M) ↔ n < R.M := by omega
        by_cases c1 : w = sIn
        · have f : fitB R.M n (.tup [.str w, b]) = (decide (n < R.M) && rngD b 0 n) := if_pos c1
          rw [f]
          rw [decide_eq_true c1] at w1
          by_cases c3 : n < R.M
          · simp [m_deed_fits, DL.run, e_deed_fits, w1, r1, c3]
          · simp [m_deed_fits, DL.run, e_deed_fits, w1, r1, c3]
        · have f : fitB R.M n (.tup [.str w, b]) = (decide (w = sOut) && rngD b 0 ((n : Int) - 1)) := if_neg c1
          rw [f]
          rw [decide_eq_false c1] at w1
          by_cases c3 : w = sOut
          · rw [decide_eq_true c3] at w2
            rw [decide_eq_true c3]
            simp [m_deed_fits, DL.run, e_deed_fits, w1, w2, r2]
          · rw [decide_eq_false c3] at w2
            rw [decide_eq_false c3]
            simp [m_deed_fits, DL.run, e_deed_fits, w1, w2, r2]
      | scr _ => cases ha
      | cls _ => cases ha
      | obj _ _ => cases ha
      | fn _ _ => cases ha
      | any => cases ha
      | _ => simp [m_deed_fits, DL.run, e_deed_fits, fitB]
  | scr _ => cases hd
  | cls _ => cases hd
  | obj _ _ => cases hd
  | fn _ _ => cases hd
  | any => cases hd
  | _ => simp [m_deed_fits, DL.run, e_deed_fits, fitB]
def fb (M : Nat) : Nat → Nat → List D → Option Nat
  | _, _, [] => none
  | n, i, d :: r => if fitB M n d = true then fb M (if isIn d = true then n + 1 else n - 1) (i + 1) r else some i
theorem fit_shape {M n : Nat} {d : D} (hd : okDd d = true) (h : fitB M n d = true) : fIx d (.int 0) = some (.str (if isIn d then sIn else sOut)) ∧ (isIn d = true → n < M) ∧ (isIn d = false → 0 < n) ∧ fEq (.str (if isIn d then sIn else sOut)) (.str "in") = some (.bl (isIn d)) := by
  cases d with
  | tup xs =>
    match xs, h with
    | [.str w, b], h =>
      have h : (if w = sIn then decide (n < M) && rngD b 0 n else decide (w = sOut) && rngD b 0 ((n : Int) - 1)) = true := h
      by_cases c : w = sIn
      · have hi : isIn (.tup [.str w, b]) = true := decide_eq_true c
        rw [if_pos c] at h
        simp only [Bool.and_eq_true, decide_eq_true_eq] at h
        rw [hi]
        exact ⟨by simp [c], (fun _ => h.1), (fun z => by cases z), by rw [if_pos rfl]; exact (wayW_in (w := sIn) (by decide +kernel)).trans (bl_congr (by decide))⟩
      · have hi : isIn (.tup [.str w, b]) = false := decide_eq_false c
        rw [if_neg c] at h
        simp only [Bool.and_eq_true, decide_eq_true_eq] at h
        rw [hi]
        obtain ⟨i, _, h1, h2⟩ := rng_int h.2
        exact ⟨by simp [h.1], (fun z => by cases z), (fun _ => by omega), by rw [if_neg (by decide)]; exact (wayW_in (w := sOut) (by decide +kernel)).trans (bl_congr (by decide +kernel))⟩
    | [], h => cases h
    | [a], h => cases a <;> cases h
    | a :: b :: c :: r, h => cases a <;> cases h
  | _ => cases h
theorem bd_loop (R : Rm) : ∀ (ds : List D) (n i : Nat), (∀ d ∈ ds, okDd d = true) → ∃ de, vLoop (tgTup 2 (tgCons (tName 4) (tgCons (tName 5) tgNil))) lb_bad_deed_from_1 (enumD i ds) [.va (roomD R), .va (.int n), .no, .no, .no, .no] = match fb R.M n i ds with
    | none => .nx de
    | some j => .ret (.int j) de
  | [], n, i, _ => ⟨_, rfl⟩
  | d :: r, n, i, h => by
    have hd := h d List.mem_cons_self
    have e1 := p_fits15 R n d hd
    cases hf : fitB R.M n d with
    | false =>
      rw [hf] at e1
      refine ⟨[.va (roomD R), .va (.int n), .no, .no, .va (.int i), .va d], ?_⟩
      rw [fb, hf, if_neg (by decide), enumD]
      simp [lb_bad_deed_from_1, e1]
    | true =>
      rw [hf] at e1
      obtain ⟨f1, f2, f3, f4⟩ := fit_shape hd hf
      obtain ⟨de, ih⟩ := bd_loop R r (if isIn d = true then n + 1 else n - 1) (i + 1) fun x hx => h x (List.mem_cons_of_mem _ hx)
      refine ⟨de, ?_⟩
      rw [fb, hf, if_pos rfl, enumD, ← ih]
      refine vLoop_nx (de1 := [.va (roomD R), .va (.int n), .no, .no, .va (.int i), .va d]) (by simp) ?_
      cases hi : isIn d with
      | true =>
        rw [hi] at f1 f4
        simp [lb_bad_deed_from_1, e1, f1] at f4 ⊢
        simp [f4]
      | false =>
        rw [hi] at f1 f4
        have := f3 hi
        have e5 : ((n - 1 : Nat) : Int) = (n : Int) + -1 := by omega
        simp [lb_bad_deed_from_1, e1, f1] at f4 ⊢
        simp [f4, e5]
def optD : Option Nat → D
  | none => .non
  | some j => .int j
/-! ### the harness -/
def okD15 (d : D) : Prop := okDd d = true ∧ okS d = true
theorem ok_in {n : Nat} (h : n ≤ 8) : okD15 (.tup [.str "in", .int n]) := by
  have key : ((List.range 9).all fun n => okDd (.tup [.str "in", .int n]) && okS (.tup [.str "in", .int n])) = true := by decide +kernel
  have := List.all_eq_true.mp key n (List.mem_range.mpr (by omega))
  simpa [okD15] using this
theorem ok_out {n : Nat} (h : n ≤ 8) : okD15 (.tup [.str "out", .int n]) := by
  have key : ((List.range 9).all fun n => okDd (.tup [.str "out", .int n]) && okS (.tup [.str "out", .int n])) = true := by decide +kernel
  have := List.all_eq_true.mp key n (List.mem_range.mpr (by omega))
  simpa [okD15] using this
end Lw
set_option maxRecDepth 100000
set_option maxHeartbeats 4000000
set_option exponentiation.threshold 300
set_option autoImplicit false
namespace Lw
open DL L2
/-! ### deeds that fit -/
abbrev Dd := Bool × Nat
def ddD (e : Dd) : D := .tup [.str (wayS e.1), .int e.2]
def nsz (n : Nat) (e : Dd) : Nat := if e.1 = true then n + 1 else n - 1
def fit1 (M n : Nat) (e : Dd) : Prop := if e.1 = true then n < M ∧ e.2 ≤ n else e.2 < n
def FitDs (M : Nat) : Nat → List Dd → Prop
  | _, [] => True
  | n, e :: r => fit1 M n e ∧ FitDs M (nsz n e) r
def szD : Nat → List Dd → Nat
  | n, [] => n
  | n, e :: r => szD (nsz n e) r
theorem fit_snoc {M : Nat} : ∀ {n : Nat} {es : List Dd} {e : Dd}, FitDs M n es → fit1 M (szD n es) e → FitDs M n (es ++ [e])
  | _, [], _, _, h => ⟨h, trivial⟩
  | _, a :: es, _, h, h2 => ⟨h.1, fit_snoc h.2 h2⟩
theorem sz_snoc : ∀ {n : Nat} {es : List Dd} {e : Dd}, szD n (es ++ [e]) = nsz (szD n es) e
  | _, [], _ => rfl
  | n, a :: es, _ => sz_snoc (n := nsz n a) (es := es)
theorem dd_ok {e : Dd} (h : e.2 ≤ 8) : okD15 (ddD e) := by
  obtain ⟨b, p⟩ := e
  cases b
  · exact ok_out h
  · exact ok_in h
theorem fit_le {M : Nat} : ∀ {n : Nat} {es : List Dd}, n ≤ M → FitDs M n es → ∀ e ∈ es, e.2 ≤ M
  | n, a :: es, hn, h, e, he => by
    have h1 : a.2 ≤ M ∧ nsz n a ≤ M := by
      have := h.1
      unfold fit1 at this
      unfold nsz
      split at this
      · rename_i q; rw [if_pos q]; omega
      · rename_i q; rw [if_neg q]; omega
    rcases List.mem_cons.mp he with rfl | he
    · exact h1.1
    · exact fit_le h1.2 h.2 e he
theorem sz_le {M : Nat} : ∀ {n : Nat} {es : List Dd}, n ≤ M → FitDs M n es → szD n es ≤ M
  | _, [], hn, _ => hn
  | n, a :: es, hn, h => by
    have h1 : nsz n a ≤ M := by
      have := h.1
      unfold fit1 at this
      unfold nsz
      split at this
      · rename_i q; rw [if_pos q]; omega
      · rename_i q; rw [if_neg q]; omega
    exact sz_le (n := nsz n a) h1 h.2
theorem fits_okD {M : Nat} (hM : M ≤ 8) {es : List Dd} (h : FitDs M 0 es) : ∀ d ∈ es.map ddD, okD15 d := fun d hd => by
  obtain ⟨e, he, rfl⟩ := List.mem_map.mp hd
  exact dd_ok (Nat.le_trans (fit_le (Nat.zero_le _) h e he) hM)
theorem fitB_dd (M n : Nat) (e : Dd) : fitB M n (ddD e) = true ↔ fit1 M n e := by
  obtain ⟨b, p⟩ := e
  unfold fit1 ddD
  cases b with
  | true =>
    have h : fitB M n (.tup [.str (wayS true), .int p]) = (decide (n < M) && rngD (.int p) 0 n) := @if_pos (wayS true = sIn) _ rfl Bool (decide (n < M) && rngD (.int p) 0 n) (decide (wayS true = sOut) && rngD (.int p) 0 ((n : Int) - 1))
    rw [h]
    simp
  | false =>
    have h : fitB M n (.tup [.str (wayS false), .int p]) = (decide (sOut = sOut) && rngD (.int p) 0 ((n : Int) - 1)) := @if_neg (wayS false = sIn) _ in_out Bool (decide (n < M) && rngD (.int p) 0 n) (decide (sOut = sOut) && rngD (.int p) 0 ((n : Int) - 1))
    rw [h]
    simp
    omega
theorem isIn_dd (e : Dd) : isIn (ddD e) = e.1 := by
  obtain ⟨b, p⟩ := e
  cases b
  · show decide (sOut = sIn) = false
    exact decide_eq_false in_out
  · show decide (sIn = sIn) = true
    exact decide_eq_true rfl
theorem fb_fit {M : Nat} : ∀ {n i : Nat} {es : List Dd}, FitDs M n es → fb M n i (es.map ddD) = none
  | _, _, [], _ => rfl
  | n, i, e :: es, h => by
    rw [List.map_cons, fb, if_pos ((fitB_dd M n e).mpr h.1), isIn_dd]
    exact fb_fit h.2
/-! ### what a table plays -/
@[simp] theorem dd_0 (e : Dd) : fIx (ddD e) (.int 0) = some (.str (wayS e.1)) := by simp [ddD]
@[simp] theorem dd_1 (e : Dd) : fIx (ddD e) (.int 1) = some (.int e.2) := by simp [ddD]
theorem flDs_of : ∀ {ds : List D}, (∀ d ∈ ds, flD d = true) → flDs ds = true
  | [], _ => rfl
  | d :: ds, h => by rw [flDs, h d List.mem_cons_self, flDs_of fun x hx => h x (List.mem_cons_of_mem _ hx)]; rfl
theorem fl_tupN (row : List Nat) : flD (tupN row) = true := flDs_of (ds := row.map natD) fun d hd => by
  obtain ⟨n, _, rfl⟩ := List.mem_map.mp hd
  rfl
@[simp] theorem fl_run (rs : List En) (de : DEnv) : flatL de (.retF (runD rs) none) = .ok (runD rs) de := by
  have h : flDs (rs.map enD) = true := flDs_of fun d hd => by
    obtain ⟨e, _, rfl⟩ := List.mem_map.mp hd
    show (flD (deedD e) && (flD (tupN e.row) && true)) = true
    rw [fl_tupN]
    rfl
  show (if flDs (rs.map enD) = true then _ else _) = _
  rw [if_pos h]
  rfl
end Lw
set_option maxRecDepth 100000
set_option maxHeartbeats 4000000
set_option exponentiation.threshold 300
set_option autoImplicit false
namespace Lw
open DL L2
/-! ### tables by rows -/
def nkr (k : List Nat) : PySem.NestedKey := .tup (k.map fun n : Nat => .num n)
theorem nkr_ok (k : List Nat) : okK (nkr k) = true := by
  obtain ⟨h1, h2⟩ := num_ok k
  unfold okK nkr
  simp [noT, h1, PySem.NestedKey.depth, h2]
theorem row_key (k : List Nat) : keyN (tupN k) = some (nkr k) := by
  have ok := nkr_ok k
  unfold tupN keyN
  dsimp only
  rw [keyDs_nat]
  show (if okK (nkr k) = true then some (nkr k) else none) = _
  rw [if_pos ok]
theorem nkr_inj {a b : List Nat} (h : nkr a = nkr b) : a = b := by
  unfold nkr at h
  simp only [PySem.NestedKey.tup.injEq] at h
  exact num_inj h
theorem nkr_eq (a b : List Nat) : (keyN (tupN a) = some (nkr b)) ↔ (a = b) := by
  rw [row_key]
  exact ⟨fun h => nkr_inj (Option.some.inj h), fun h => by rw [h]⟩
section
variable {α : Type} (v : α → D)
def entG (t : List (List Nat × α)) : List (D × D) := t.map fun e => (tupN e.1, v e.2)
def dicG (t : List (List Nat × α)) : D := .dn (entG v t)
def lkG : List (List Nat × α) → List Nat → Option α
  | [], _ => none
  | e :: t, k => if e.1 = k then some e.2 else lkG t k
def putG : List (List Nat × α) → List Nat → α → List (List Nat × α)
  | [], k, a => [(k, a)]
  | e :: t, k, a => if e.1 = k then (e.1, a) :: t else e :: putG t k a
theorem valN_G (k : List Nat) : ∀ t : List (List Nat × α), valN (entG v t) (nkr k) = (lkG t k).map v
  | [] => rfl
  | e :: t => by
    show (if keyN (tupN e.1) = some (nkr k) then some (v e.2) else valN (entG v t) (nkr k)) = _
    rw [valN_G k t]
    show _ = Option.map v (if e.1 = k then some e.2 else lkG t k)
    by_cases h : e.1 = k
    · rw [if_pos h, if_pos ((nkr_eq e.1 k).mpr h)]; rfl
    · rw [if_neg h, if_neg (fun z => h ((nkr_eq e.1 k).mp z))]
theorem putN_G (k : List Nat) (a : α) : ∀ t : List (List Nat × α), putN (entG v t) (nkr k) (tupN k) (v a) = entG v (putG t k a)
  | [] => rfl
  | e :: t => by
    show (if keyN (tupN e.1) = some (nkr k) then (tupN e.1, v a) :: entG v t else (tupN e.1, v e.2) :: putN (entG v t) (nkr k) (tupN k) (v a)) = _
    rw [putN_G k a t]
    show _ = entG v (if e.1 = k then (e.1, a) :: t else e :: putG t k a)
    by_cases h : e.1 = k
    · rw [if_pos h, if_pos ((nkr_eq e.1 k).mpr h)]; rfl
    · rw [if_neg h, if_neg (fun z => h ((nkr_eq e.1 k).mp z))]; rfl
theorem dic0_put1 (i : Nat) (a : α) (k : List Nat) (t : List (List Nat × α)) (s : Sl) (de : DEnv) (h : t.length < 16777216) : putNA i (v a) (tupN k) de (some (s, dicG v t)) = .nx (de.set i (s.same (dicG v (putG t k a)))) := by
  have hl : (entG v t).length < 16777216 := by unfold entG; rw [List.length_map]; exact h
  unfold putNA
  unfold dicG entN
  dsimp only
  rw [row_key]
  dsimp only
  rw [if_pos hl, putN_G]
@[simp] theorem dicG_ix0 (t : List (List Nat × α)) (b : D) : fIx (dicG v t) b = none := Eq.trans rfl rfl
@[simp] theorem dicG_ix (t : List (List Nat × α)) (k : List Nat) : orIx none (dicG v t) (tupN k) = (lkG t k).map v := by
  show (keyN (tupN k)).bind (fun k => valN (entG v t) k) = _
  rw [row_key]
  exact valN_G v k t
@[simp] theorem dicG_in0 (t : List (List Nat × α)) (x : D) : fIn x (dicG v t) = none := Eq.trans rfl rfl
@[simp] theorem dicG_nin0 (t : List (List Nat × α)) (x : D) : fNotIn x (dicG v t) = none := Eq.trans rfl rfl
@[simp] theorem dicG_in (t : List (List Nat × α)) (k : List Nat) (g : Bool → Bool) : orIn g none (tupN k) (dicG v t) = some (.bl (g (lkG t k).isSome)) := by
  show (keyN (tupN k)).map (fun k => D.bl (g (valN (entG v t) k).isSome)) = _
  rw [row_key, Option.map_some, valN_G, Option.isSome_map]
@[simp] theorem dicG_it0 (t : List (List Nat × α)) : itemsOf (dicG v t) = none := Eq.trans rfl rfl
@[simp] theorem dicG_it (t : List (List Nat × α)) : orIt none (dicG v t) = some (t.map fun e => tupN e.1) := by
  show some ((entG v t).map (·.1)) = _
  unfold entG
  rw [List.map_map]
  rfl
@[simp] theorem dicG_ls (t : List (List Nat × α)) : fListN [dicG v t] = some (.lst (t.map fun e => tupN e.1)) := by
  show some (D.lst ((entG v t).map (·.1))) = _
  unfold entG
  rw [List.map_map]
  rfl
@[simp] theorem dicG_tr (t : List (List Nat × α)) : truN (dicG v t) = some (!t.isEmpty) := by
  show some (!(entG v t).isEmpty) = _
  cases t <;> rfl
@[simp] theorem dicG_ty (t : List (List Nat × α)) : tyOf (dicG v t) = some (.b "dict") := Eq.trans rfl rfl
end
section
variable {α : Type}
theorem lkG_put (t : List (List Nat × α)) (k j : List Nat) (a : α) : lkG (putG t k a) j = if k = j then some a else lkG t j := by
  induction t with
  | nil => rfl
  | cons e t ih =>
    unfold putG
    by_cases h : e.1 = k
    · rw [if_pos h]
      unfold lkG
      by_cases h2 : k = j
      · rw [if_pos h2, if_pos (h.trans h2)]
      · rw [if_neg h2, if_neg (fun z => h2 (h.symm.trans z)), if_neg (fun z => h2 (h.symm.trans z))]
    · rw [if_neg h]
      show (if e.1 = j then some e.2 else lkG (putG t k a) j) = _
      rw [ih]
      by_cases h2 : e.1 = j
      · have h3 : ¬ k = j := fun z => h (h2.trans z.symm)
        rw [if_pos h2, if_neg h3]
        unfold lkG
        rw [if_pos h2]
      · rw [if_neg h2]
        by_cases h3 : k = j
        · rw [if_pos h3, if_pos h3]
        · rw [if_neg h3, if_neg h3]
          show _ = (if e.1 = j then some e.2 else lkG t j)
          rw [if_neg h2]
def kputG (ks : List (List Nat)) (k : List Nat) : List (List Nat) := if k ∈ ks then ks else ks ++ [k]
theorem putG_map (k : List Nat) (a : α) : ∀ t : List (List Nat × α), (putG t k a).map Prod.fst = kputG (t.map Prod.fst) k
  | [] => rfl
  | e :: t => by
    have ih := putG_map k a t
    unfold kputG at ih ⊢
    unfold putG
    by_cases h : e.1 = k
    · rw [if_pos h, List.map_cons, List.map_cons, if_pos (by rw [h]; exact List.mem_cons_self)]
    · rw [if_neg h, List.map_cons, List.map_cons, ih]
      by_cases h2 : k ∈ t.map Prod.fst
      · rw [if_pos h2, if_pos (List.mem_cons_of_mem _ h2)]
      · rw [if_neg h2, if_neg (fun z => (List.mem_cons.mp z).elim (fun z => h z.symm) h2)]
        rfl
theorem kputG_nd {ks : List (List Nat)} (k : List Nat) (h : ks.Nodup) : (kputG ks k).Nodup := by
  unfold kputG
  split
  · exact h
  · rename_i hk
    rw [List.nodup_append]
    exact ⟨h, by simp, fun a ha b hb => by
      cases List.mem_singleton.mp hb
      exact fun z => hk (z ▸ ha)⟩
end
theorem nd_len {β : Type} [DecidableEq β] : ∀ (l S : List β), l.Nodup → (∀ x ∈ l, x ∈ S) → l.length ≤ S.length
  | [], _, _, _ => Nat.zero_le _
  | a :: l, S, hn, hs => by
    rw [List.nodup_cons] at hn
    have ha : a ∈ S := hs a List.mem_cons_self
    have ih := nd_len l (S.erase a) hn.2 fun x hx => by
      have hne : x ≠ a := fun z => hn.1 (z ▸ hx)
      exact (List.mem_erase_of_ne hne).mpr (hs x (List.mem_cons_of_mem _ hx))
    rw [List.length_erase_of_mem ha] at ih
    have := List.length_pos_of_mem ha
    rw [List.length_cons]
    omega
/-! ### what may stand behind a deed, and what it costs -/
def aft (R : Rm) (row : List Nat) (e : Dd) : List (List Nat) := if e.1 = true then tuplesOf (List.range R.L) (row.length + 1) else [wo row e.2]
def pay (R : Rm) (row : List Nat) (e : Dd) (fo : List Nat) : Nat := if e.1 = true then mp R row e.2 fo else 0
theorem aft_std {R : Rm} {row : List Nat} (hs : Std R row) {e : Dd} (h : fit1 R.M row.length e) : ∀ fo ∈ aft R row e, Std R fo ∧ fo.length = nsz row.length e := by
  obtain ⟨b, p⟩ := e
  intro fo hf
  cases b with
  | true =>
    have h : row.length < R.M ∧ p ≤ row.length := h
    have hf : fo ∈ tuplesOf (List.range R.L) (row.length + 1) := hf
    obtain ⟨g1, g2⟩ := tuplesOf_std _ _ fo hf
    have gl := tuplesOf_row _ _ fo hf
    exact ⟨⟨g1, fun x hx => List.mem_range.mp (g2 x hx), by omega⟩, gl⟩
  | false =>
    have h : p < row.length := h
    have hf : fo ∈ [wo row p] := hf
    rw [List.mem_singleton.mp hf]
    exact ⟨wo_std hs p, wo_len h⟩
theorem p_after_all (R : Rm) (hR : R.Ok) (row : List Nat) (hs : Std R row) (e : Dd) (h : fit1 R.M row.length e) : m_after_all [roomD R, tupN row, ddD e] = (if e.1 = true then Fo.ret (lstT (aft R row e)) none else Fo.retF (lstT (aft R row e)) none) := by
  have w2 := way_out e.1
  have hM := hR.ml
  have h8 := hR.l8
  have hsz := hs.sz
  have ll : fLen [tupN row] = some (.int row.length) := by simp [tupN]
  obtain ⟨b, p⟩ := e
  cases b with
  | true =>
    have h : row.length < R.M ∧ p ≤ row.length := h
    have e1 := p_standings1 R hR (row.length + 1) (by omega)
    have ea : aft R row (true, p) = tuplesOf (List.range R.L) (row.length + 1) := rfl
    rw [ea, if_pos rfl]
    generalize lstT (tuplesOf (List.range R.L) (row.length + 1)) = S at *
    simp at e1
    simp [m_after_all, DL.run, e_after_all, w2, e1, ll]
  | false =>
    have e1 := p_without row p (by omega)
    have ea : D.lst [tupN (wo row p)] = lstT (aft R row (false, p)) := rfl
    rw [← ea]
    simp [m_after_all, DL.run, e_after_all, w2, e1]
theorem p_pay (R : Rm) (hR : R.Ok) (row : List Nat) (hs : Std R row) (e : Dd) (h : fit1 R.M row.length e) (fo : List Nat) (hf : fo ∈ aft R row e) : m_paid_for [roomD R, tupN row, ddD e, tupN fo] = .ret (.int (pay R row e fo)) none := by
  obtain ⟨b, p⟩ := e
  obtain ⟨g1, g2⟩ := aft_std hs h fo hf
  cases b with
  | true =>
    have h : row.length < R.M ∧ p ≤ row.length := h
    exact p_paid_for R hR row hs ⟨true, p, fo⟩ (fits_in g1 p h.1 h.2 g2) rfl
  | false =>
    have w2 := way_out false
    have ec : pay R row (false, p) fo = 0 := rfl
    rw [ec]
    simp [m_paid_for, DL.run, e_paid_for, w2]
theorem h_without (row : List Nat) (p : Nat) (h : row.length ≤ 1000) : m__law_without [tupN row, .int p] = .ret (tupN (wo row p)) none := by
  have e1 := sl_to row p
  have e2 := sl_from1 row p
  have e3 := add_wo row p h
  simp [m__law_without, DL.run, e__law_without, e1, e2, e3]
theorem h_afterG (R : Rm) (hR : R.Ok) (row : List Nat) (hs : Std R row) (e : Dd) (h : fit1 R.M row.length e) : m__law_after [valsD R, tupN row, ddD e] = (if e.1 = true then Fo.ret (lstT (aft R row e)) none else Fo.retF (lstT (aft R row e)) none) := by
  have w2 := way_out e.1
  have hM := hR.ml
  have h8 := hR.l8
  have hsz := hs.sz
  have ll : fLen [tupN row] = some (.int row.length) := by simp [tupN]
  obtain ⟨b, p⟩ := e
  cases b with
  | true =>
    have h : row.length < R.M ∧ p ≤ row.length := h
    have e1 := h_rows R.L (row.length + 1) (by omega) (by omega)
    have ea : aft R row (true, p) = tuplesOf (List.range R.L) (row.length + 1) := rfl
    rw [ea, if_pos rfl]
    generalize lstT (tuplesOf (List.range R.L) (row.length + 1)) = S at *
    simp at e1
    simp [m__law_after, DL.run, e__law_after, w2, e1, ll]
  | false =>
    have e1 := h_without row p (by omega)
    have ea : D.lst [tupN (wo row p)] = lstT (aft R row (false, p)) := rfl
    rw [← ea]
    simp [m__law_after, DL.run, e__law_after, w2, e1]
theorem h_payG (R : Rm) (hR : R.Ok) (row : List Nat) (hs : Std R row) (e : Dd) (h : fit1 R.M row.length e) (fo : List Nat) (hf : fo ∈ aft R row e) : m__law_paid [valsD R, tupN row, ddD e, tupN fo] = .ret (.int (pay R row e fo)) none := by
  have w2 := way_out e.1
  have hM := hR.ml
  have h8 := hR.l8
  have hsz := hs.sz
  obtain ⟨b, p⟩ := e
  obtain ⟨g1, g2⟩ := aft_std hs h fo hf
  cases b with
  | true =>
    have h : row.length < R.M ∧ p ≤ row.length := h
    have e1 := h_price R hR row fo p p rfl g2 (hs.lt1000 hR) (g1.lt1000 hR) (by omega)
    have ec : pay R row (true, p) fo = mp R row p fo := rfl
    rw [ec]
    simp [m__law_paid, DL.run, e__law_paid, w2, e1]
  | false =>
    have ec : pay R row (false, p) fo = 0 := rfl
    rw [ec]
    simp [m__law_paid, DL.run, e__law_paid, w2]
end Lw
set_option maxRecDepth 100000
set_option maxHeartbeats 4000000
set_option exponentiation.threshold 300
set_option autoImplicit false
namespace Lw
open DL L2
/-! ### diaries -/
abbrev E9 := Dd × Option Nat
def paidD : Option Nat → D
  | none => .non
  | some n => .int n
def e9D (e : E9) : D := .tup [ddD e.1, paidD e.2]
@[simp] theorem e9_0 (e : E9) : fIx (e9D e) (.int 0) = some (ddD e.1) := by simp [e9D]
@[simp] theorem e9_1 (e : E9) : fIx (e9D e) (.int 1) = some (paidD e.2) := by simp [e9D]
/-! ### tables of sums -/
def vL (x : Nat × Nat) : D := .lst [.int x.1, .int x.2]
@[simp] theorem vL_0 (x : Nat × Nat) : fIx (vL x) (.int 0) = some (.int x.1) := by simp [vL]
@[simp] theorem vL_1 (x : Nat × Nat) : fIx (vL x) (.int 1) = some (.int x.2) := by simp [vL]
def mapG {α β : Type} (f : α → β) (t : List (List Nat × α)) : List (List Nat × β) := t.map fun e => (e.1, f e.2)
section
variable {α β : Type} (f : α → β)
theorem mapG_keys (t : List (List Nat × α)) : (mapG f t).map Prod.fst = t.map Prod.fst := by
  unfold mapG
  rw [List.map_map]
  rfl
end
structure GTn {α : Type} (R : Rm) (n : Nat) (t : List (List Nat × α)) : Prop where
  nd : (t.map Prod.fst).Nodup
  std : ∀ k ∈ t.map Prod.fst, Std R k ∧ k.length = n
theorem tuples_few (L n : Nat) (hL : L ≤ 8) (hn : n ≤ 8) : (tuplesOf (List.range L) n).length < 16777216 := by
  cases n with
  | zero => simp [tuplesOf]
  | succ n =>
    have h1 := tuplesOf_len7 (List.range L) (by simpa using hL) n
    have h2 : 7 ^ n ≤ 7 ^ 7 := Nat.pow_le_pow_right (by decide) (by omega)
    have h3 : 8 * 7 ^ 7 < 16777216 := by decide
    omega
theorem GTn.len {α : Type} {R : Rm} (hR : R.Ok) {n : Nat} {t : List (List Nat × α)} (h : GTn R n t) : t.length < 16777216 := by
  have h1 := nd_len (t.map Prod.fst) (tuplesOf (List.range R.L) n) h.nd fun k hk => by
    obtain ⟨g1, g2⟩ := h.std k hk
    exact mem_tuplesOf _ _ k g2 g1.up fun x hx => List.mem_range.mpr (g1.lt x hx)
  rw [List.length_map] at h1
  cases t with
  | nil => simp
  | cons e t =>
    obtain ⟨g1, g2⟩ := h.std e.1 List.mem_cons_self
    have := g1.sz
    have := hR.ml
    have := hR.l8
    exact Nat.lt_of_le_of_lt h1 (tuples_few R.L n hR.l8 (by omega))
theorem GTn.nil {α : Type} (R : Rm) (n : Nat) : GTn (α := α) R n [] := ⟨List.nodup_nil, fun _ h => nomatch h⟩
theorem GTn.put {α : Type} {R : Rm} {n : Nat} {t : List (List Nat × α)} (h : GTn R n t) {k : List Nat} (a : α) (hk : Std R k) (hn : k.length = n) : GTn R n (putG t k a) := by
  refine ⟨by rw [putG_map]; exact kputG_nd k h.nd, fun j hj => ?_⟩
  rw [putG_map] at hj
  unfold kputG at hj
  split at hj
  · exact h.std j hj
  · rcases List.mem_append.mp hj with hj | hj
    · exact h.std j hj
    · rw [List.mem_singleton.mp hj]; exact ⟨hk, hn⟩
theorem GTn.map {α β : Type} {R : Rm} {n : Nat} {t : List (List Nat × α)} (h : GTn R n t) (f : α → β) : GTn R n (mapG f t) := ⟨by rw [mapG_keys]; exact h.nd, by rw [mapG_keys]; exact h.std⟩
/-! ### one entry -/
end Lw
set_option maxRecDepth 100000
set_option maxHeartbeats 4000000
set_option exponentiation.threshold 300
set_option autoImplicit false
set_option maxRecDepth 100000
set_option maxHeartbeats 4000000
set_option exponentiation.threshold 300
set_option autoImplicit false
set_option maxRecDepth 100000
set_option maxHeartbeats 4000000
set_option exponentiation.threshold 300
set_option autoImplicit false
namespace Lw
open DL L2
/-! ### few standings -/
def prt (L : Nat) : Nat → Nat
  | 0 => 1
  | k + 1 => prt L k * (L - k) / (k + 1)
def cnt (L : Nat) : Nat → Nat
  | 0 => 0
  | k + 1 => cnt L k + prt L k
theorem prt_le : ∀ L, L ≤ 8 → ∀ k, k ≤ 9 → prt L k ≤ 70 := by decide +kernel
theorem p_count (R : Rm) (hR : R.Ok) : m_count_standings [roomD R] = .ret (.int (cnt R.L (R.M + 1))) none := by
  have hM := hR.ml
  have h8 := hR.l8
  have lp := vLoop_range (g := tName 3) (tb := lb_count_standings_1) (fun k de => de = [.va (roomD R), .va (.int (cnt R.L k)), .va (.int (prt R.L k)), .no]) (R.M + 1) [.va (roomD R), .va (.int 0), .va (.int 1), .no] rfl (fun k hk de hde => by
    subst hde
    have hp := prt_le R.L h8 k (by omega)
    have e1 : (R.L : Int) - k = ((R.L - k : Nat) : Int) := by omega
    have m1 : cMul (prt R.L k : Nat) ((R.L - k : Nat) : Int) = true := cMul_ok (by omega) (by omega)
    have hm : (0 : Int) ≤ ((prt R.L k * (R.L - k) : Nat) : Int) ∧ ((prt R.L k * (R.L - k) : Nat) : Int) < 10000 := by
      have : prt R.L k * (R.L - k) ≤ 70 * 8 := Nat.mul_le_mul hp (by omega)
      omega
    have m2 : cDiv ((prt R.L k * (R.L - k) : Nat) : Int) ((k : Int) + 1) = true := cDiv_ok (by omega) (by omega)
    have e2 : ((prt R.L k * (R.L - k) : Nat) : Int) / ((k : Int) + 1) = (prt R.L (k + 1) : Nat) := by rw [prt]; push_cast; rfl
    have e3 : (prt R.L k : Int) * ((R.L - k : Nat) : Int) = ((prt R.L k * (R.L - k) : Nat) : Int) := by push_cast; rfl
    have e4 : ((cnt R.L k : Nat) : Int) + prt R.L k = (cnt R.L (k + 1) : Nat) := by rw [cnt]; push_cast; rfl
    refine ⟨_, _, rfl, .inl ?_, rfl⟩
    rw [← e4, ← e2, ← e3] 
    rw [← e3] at m2
    generalize ((R.L - k : Nat) : Int) = y at *
    generalize prt R.L k = a at *
    simp [lb_count_standings_1, e1, m1, m2])
  obtain ⟨de, e, rfl⟩ := lp
  have er := rngE (j := (R.M : Int) + 1) (n := R.M + 1) (by omega) (by omega)
  simp [m_count_standings, DL.run, e_count_standings, er, e]
theorem sizes_few {R : Rm} (h : (R.L, R.M) ∈ sizesL) : cnt R.L (R.M + 1) ≤ 60 := by
  have key : (sizesL.all fun p => decide (cnt p.1 (p.2 + 1) ≤ 60)) = true := by decide +kernel
  exact of_decide_eq_true (List.all_eq_true.mp key (R.L, R.M) h)
theorem p_need_few (R : Rm) (hR : R.Ok) (h : cnt R.L (R.M + 1) ≤ 60) : m_need_few [roomD R, .int 60] = .ret .non none := by
  have e1 := p_count R hR
  have h2 : ¬ (60 : Int) < (cnt R.L (R.M + 1) : Nat) := by omega
  simp [m_need_few, DL.run, e_need_few, e1, h2]
end Lw
set_option maxRecDepth 100000
set_option maxHeartbeats 4000000
set_option exponentiation.threshold 300
set_option autoImplicit false
namespace Lw
open DL L2
/-! ### tables by index and row -/
abbrev KpH := Nat × List Nat
def kpD (k : KpH) : D := .tup [.int k.1, tupN k.2]
def nkp (k : KpH) : PySem.NestedKey := .tup [.num k.1, .tup (k.2.map fun n : Nat => .num n)]
theorem nkp_ok (k : KpH) : okK (nkp k) = true := by
  obtain ⟨h1, h2⟩ := num_ok k.2
  unfold okK nkp
  simp [noT, noTs, h1, PySem.NestedKey.depth, PySem.NestedKey.depthAll, h2]
theorem kp_key (k : KpH) : keyN (kpD k) = some (nkp k) := by
  have e : keyDs [.int k.1, tupN k.2] = some [.num k.1, .tup (k.2.map fun n : Nat => .num n)] := by
    unfold tupN
    simp [keyDs, keyD, keyDs_nat]
  have ok := nkp_ok k
  unfold kpD keyN
  dsimp only
  rw [e]
  show (if okK (nkp k) = true then some (nkp k) else none) = _
  rw [if_pos ok]
theorem nkp_inj {a b : KpH} (h : nkp a = nkp b) : a = b := by
  unfold nkp at h
  simp only [PySem.NestedKey.tup.injEq, List.cons.injEq, PySem.NestedKey.num.injEq, and_true] at h
  obtain ⟨h1, h2⟩ := h
  have := num_inj h2
  obtain ⟨a1, a2⟩ := a
  obtain ⟨b1, b2⟩ := b
  simp only at this h1
  subst this
  congr 1
  omega
theorem nkp_eq (a b : KpH) : (keyN (kpD a) = some (nkp b)) ↔ (a = b) := by
  rw [kp_key]
  exact ⟨fun h => nkp_inj (Option.some.inj h), fun h => by rw [h]⟩
abbrev TK := List (KpH × Int)
def entK (t : TK) : List (D × D) := t.map fun e => (kpD e.1, .int e.2)
def dicK (t : TK) : D := .dn (entK t)
def lkK : TK → KpH → Option Int
  | [], _ => none
  | e :: t, k => if e.1 = k then some e.2 else lkK t k
def putK : TK → KpH → Int → TK
  | [], k, a => [(k, a)]
  | e :: t, k, a => if e.1 = k then (e.1, a) :: t else e :: putK t k a
theorem valN_K (k : KpH) : ∀ t : TK, valN (entK t) (nkp k) = (lkK t k).map D.int
  | [] => rfl
  | e :: t => by
    show (if keyN (kpD e.1) = some (nkp k) then some (D.int e.2) else valN (entK t) (nkp k)) = _
    rw [valN_K k t]
    show _ = Option.map D.int (if e.1 = k then some e.2 else lkK t k)
    by_cases h : e.1 = k
    · rw [if_pos h, if_pos ((nkp_eq e.1 k).mpr h)]; rfl
    · rw [if_neg h, if_neg (fun z => h ((nkp_eq e.1 k).mp z))]
theorem putN_K (k : KpH) (a : Int) : ∀ t : TK, putN (entK t) (nkp k) (kpD k) (.int a) = entK (putK t k a)
  | [] => rfl
  | e :: t => by
    show (if keyN (kpD e.1) = some (nkp k) then (kpD e.1, D.int a) :: entK t else (kpD e.1, D.int e.2) :: putN (entK t) (nkp k) (kpD k) (.int a)) = _
    rw [putN_K k a t]
    show _ = entK (if e.1 = k then (e.1, a) :: t else e :: putK t k a)
    by_cases h : e.1 = k
    · rw [if_pos h, if_pos ((nkp_eq e.1 k).mpr h)]; rfl
    · rw [if_neg h, if_neg (fun z => h ((nkp_eq e.1 k).mp z))]; rfl
theorem dicK_put (i : Nat) (a : Int) (k : KpH) (t : TK) (s : Sl) (de : DEnv) (h : t.length < 16777216) : putNA i (.int a) (kpD k) de (some (s, dicK t)) = .nx (de.set i (s.same (dicK (putK t k a)))) := by
  have hl : (entK t).length < 16777216 := by unfold entK; rw [List.length_map]; exact h
  unfold putNA
  unfold dicK entN
  dsimp only
  rw [kp_key]
  dsimp only
  rw [if_pos hl, putN_K]
@[simp] theorem dicK_ix0 (t : TK) (b : D) : fIx (dicK t) b = none := Eq.trans rfl rfl
@[simp] theorem dicK_ix (t : TK) (k : KpH) : orIx none (dicK t) (kpD k) = (lkK t k).map D.int := by
  show (keyN (kpD k)).bind (fun k => valN (entK t) k) = _
  rw [kp_key]
  exact valN_K k t
@[simp] theorem dicK_in0 (t : TK) (x : D) : fIn x (dicK t) = none := Eq.trans rfl rfl
@[simp] theorem dicK_nin0 (t : TK) (x : D) : fNotIn x (dicK t) = none := Eq.trans rfl rfl
@[simp] theorem dicK_in (t : TK) (k : KpH) (g : Bool → Bool) : orIn g none (kpD k) (dicK t) = some (.bl (g (lkK t k).isSome)) := by
  show (keyN (kpD k)).map (fun k => D.bl (g (valN (entK t) k).isSome)) = _
  rw [kp_key, Option.map_some, valN_K, Option.isSome_map]
@[simp] theorem dicK_ty (t : TK) : tyOf (dicK t) = some (.b "dict") := Eq.trans rfl rfl
@[simp] theorem dicK_len (t : TK) : fLenN [dicK t] = some (.int t.length) := by
  show some (D.int (entK t).length) = _
  unfold entK
  rw [List.length_map]
theorem lkK_put (t : TK) (k j : KpH) (a : Int) : lkK (putK t k a) j = if k = j then some a else lkK t j := by
  induction t with
  | nil => rfl
  | cons e t ih =>
    unfold putK
    by_cases h : e.1 = k
    · rw [if_pos h]
      unfold lkK
      by_cases h2 : k = j
      · rw [if_pos h2, if_pos (h.trans h2)]
      · rw [if_neg h2, if_neg (fun z => h2 (h.symm.trans z)), if_neg (fun z => h2 (h.symm.trans z))]
    · rw [if_neg h]
      show (if e.1 = j then some e.2 else lkK (putK t k a) j) = _
      rw [ih]
      by_cases h2 : e.1 = j
      · have h3 : ¬ k = j := fun z => h (h2.trans z.symm)
        rw [if_pos h2, if_neg h3]
        unfold lkK
        rw [if_pos h2]
      · rw [if_neg h2]
        by_cases h3 : k = j
        · rw [if_pos h3, if_pos h3]
        · rw [if_neg h3, if_neg h3]
          show _ = (if e.1 = j then some e.2 else lkK t j)
          rw [if_neg h2]
theorem putK_len : ∀ (t : TK) (k : KpH) (a : Int), lkK t k = none → (putK t k a).length = t.length + 1
  | [], _, _, _ => rfl
  | e :: t, k, a, h => by
    unfold lkK at h
    unfold putK
    by_cases c : e.1 = k
    · rw [if_pos c] at h; cases h
    · rw [if_neg c] at h
      rw [if_neg c, List.length_cons, putK_len t k a h]
      rfl
/-- the rows of one index are put in -/
def fillK (i : Nat) (f : List Nat → Int) (rows : List (List Nat)) (t : TK) : TK := rows.foldl (fun t row => putK t (i, row) (f row)) t
theorem lkK_fill (i : Nat) (f : List Nat → Int) : ∀ (rows : List (List Nat)) (t : TK) (k : KpH), lkK (fillK i f rows t) k = if k.1 = i ∧ k.2 ∈ rows then some (f k.2) else lkK t k
  | [], t, k => by simp [fillK]
  | r :: rows, t, k => by
    show lkK (fillK i f rows (putK t (i, r) (f r))) k = _
    rw [lkK_fill i f rows, lkK_put]
    by_cases h1 : k.1 = i
    · by_cases h2 : k.2 ∈ rows
      · rw [if_pos ⟨h1, h2⟩, if_pos ⟨h1, List.mem_cons_of_mem _ h2⟩]
      · rw [if_neg (fun z => h2 z.2)]
        by_cases h3 : k.2 = r
        · rw [if_pos (by rw [← h1, ← h3]), if_pos ⟨h1, by rw [h3]; exact List.mem_cons_self⟩, h3]
        · rw [if_neg (fun z => h3 (by rw [← z])), if_neg (fun z => (List.mem_cons.mp z.2).elim h3 h2)]
    · rw [if_neg (fun z => h1 z.1), if_neg (fun z => h1 (by rw [← z])), if_neg (fun z => h1 z.1)]
theorem fillK_len (i : Nat) (f : List Nat → Int) : ∀ (rows : List (List Nat)) (t : TK), rows.Nodup → (∀ r ∈ rows, lkK t (i, r) = none) → (fillK i f rows t).length = t.length + rows.length
  | [], t, _, _ => rfl
  | r :: rows, t, hn, h => by
    rw [List.nodup_cons] at hn
    show (fillK i f rows (putK t (i, r) (f r))).length = _
    rw [fillK_len i f rows _ hn.2 fun x hx => by
      rw [lkK_put, if_neg (fun z => hn.1 (by have : r = x := congrArg Prod.snd z; rw [this]; exact hx))]
      exact h x (List.mem_cons_of_mem _ hx), putK_len _ _ _ (h r List.mem_cons_self), List.length_cons]
    omega
theorem fillK_le (i : Nat) (f : List Nat → Int) : ∀ (rows : List (List Nat)) (t : TK), (fillK i f rows t).length ≤ t.length + rows.length
  | [], t => Nat.le_refl _
  | r :: rows, t => by
    have h := fillK_le i f rows (putK t (i, r) (f r))
    have h2 : ∀ (t : TK) (k : KpH) (a : Int), (putK t k a).length ≤ t.length + 1 := fun t k a => by
      induction t with
      | nil => simp [putK]
      | cons e t ih => unfold putK; split <;> simp <;> omega
    have := h2 t (i, r) (f r)
    show (fillK i f rows (putK t (i, r) (f r))).length ≤ _
    rw [List.length_cons]
    omega
theorem tuples_nd (ls : List Nat) (h : ls.Nodup) : ∀ n, (tuplesOf ls n).Nodup
  | 0 => by simp [tuplesOf]
  | n + 1 => by
    rw [tuplesOf, List.Nodup, List.pairwise_flatMap]
    refine ⟨fun q _ => ?_, ?_⟩
    · unfold exts
      rw [List.pairwise_map]
      exact (h.filter _).imp fun hab z => hab (by simpa using z)
    · refine (tuples_nd ls h n).imp fun hab x hx y hy z => ?_
      obtain ⟨a, _, rfl⟩ := List.mem_map.mp hx
      obtain ⟨b, _, rfl⟩ := List.mem_map.mp hy
      exact hab (List.append_inj_left' z rfl)
/-! ### the least price to the end -/
def bc (R : Rm) : List Dd → List Nat → Int
  | [], _ => 0
  | e :: es, row => minI ((aft R row e).map fun fo => ((pay R row e fo : Nat) : Int) + bc R es fo)
theorem aft_ne {R : Rm} (hR : R.Ok) {row : List Nat} {e : Dd} (h : fit1 R.M row.length e) : aft R row e ≠ [] := by
  obtain ⟨b, p⟩ := e
  cases b with
  | true =>
    have h : row.length < R.M ∧ p ≤ row.length := h
    have hM := hR.ml
    have hin : List.range (row.length + 1) ∈ tuplesOf (List.range R.L) (row.length + 1) := mem_tuplesOf _ _ _ List.length_range List.pairwise_lt_range fun x hx => List.mem_range.mpr (Nat.lt_of_lt_of_le (List.mem_range.mp hx) (by omega))
    exact List.ne_nil_of_mem hin
  | false => exact fun z => nomatch z
theorem bc_at {R : Rm} (hR : R.Ok) {row : List Nat} {e : Dd} (h : fit1 R.M row.length e) (es : List Dd) : ∃ fo ∈ aft R row e, ((pay R row e fo : Nat) : Int) + bc R es fo = bc R (e :: es) row := by
  have hne := aft_ne hR h
  have := (minI_spec (l := (aft R row e).map fun fo => ((pay R row e fo : Nat) : Int) + bc R es fo) (fun z => hne (List.map_eq_nil_iff.mp z))).1
  obtain ⟨fo, h1, h2⟩ := List.mem_map.mp this
  exact ⟨fo, h1, h2⟩
end Lw
set_option maxRecDepth 100000
set_option maxHeartbeats 4000000
set_option exponentiation.threshold 300
set_option autoImplicit false
namespace Lw
open DL L2
/-! ### sizes -/
def szL : Nat → List Dd → List Nat
  | n, [] => [n]
  | n, e :: es => n :: szL (nsz n e) es
theorem szL_len : ∀ (n : Nat) (es : List Dd), (szL n es).length = es.length + 1
  | _, [] => rfl
  | n, e :: es => by rw [szL, List.length_cons, szL_len, List.length_cons]
theorem szL_at : ∀ (n : Nat) (es : List Dd) (k : Nat), k ≤ es.length → (szL n es)[k]? = some (szD n (es.take k))
  | n, [], k, h => by
    have : k = 0 := by simpa using h
    subst this
    rfl
  | n, e :: es, 0, _ => rfl
  | n, e :: es, k + 1, h => by
    rw [szL, List.getElem?_cons_succ, szL_at (nsz n e) es k (by simpa using h)]
    rfl
theorem szL_last (n : Nat) (es : List Dd) : (szL n es).getLast? = some (szD n es) := by
  rw [List.getLast?_eq_getElem?, szL_len, Nat.add_sub_cancel, szL_at n es es.length (Nat.le_refl _), List.take_length]
theorem atI_last2 {α : Type} (l : List α) (x : α) : atI (l ++ [x]) (-1) = some x := by rw [atI_neg1]; simp
def dsD (es : List Dd) : D := .lst (es.map ddD)
theorem items_dsD (es : List Dd) : itemsOf (dsD es) = some (es.map ddD) := rfl
def szsD (es : List Dd) : D := .lst ((szL 0 es).map natD)
theorem szs_at (es : List Dd) (k : Nat) (h : k ≤ es.length) : fIx (szsD es) (.int k) = some (.int (szD 0 (es.take k))) := by
  unfold szsD
  simp [atI_n, szL_at 0 es k h, natD]
theorem szs_last (es : List Dd) : fIx (szsD es) (.int (-1)) = some (.int (szD 0 es)) := by
  unfold szsD
  simp [atI_neg1, szL_last, natD]
theorem ds_at (es : List Dd) (k : Nat) (h : k < es.length) : fIx (dsD es) (.int k) = some (ddD es[k]) := by
  unfold dsD
  simp [atI_n, h]
theorem fits_at {M : Nat} : ∀ {n : Nat} {es : List Dd}, FitDs M n es → ∀ (k : Nat) (hk : k < es.length), fit1 M (szD n (es.take k)) es[k]
  | _, e :: es, h, 0, _ => h.1
  | n, e :: es, h, k + 1, hk => fits_at (n := nsz n e) h.2 k (by simpa using hk)
theorem fits_pre {M : Nat} : ∀ {n : Nat} {es : List Dd} (m : Nat), FitDs M n es → FitDs M n (es.take m)
  | _, [], m, h => by rw [List.take_nil]; exact h
  | _, _ :: _, 0, _ => trivial
  | _, e :: es, m + 1, h => ⟨h.1, fits_pre m h.2⟩
theorem sz_take {es : List Dd} (k : Nat) (hk : k < es.length) : szD 0 (es.take (k + 1)) = nsz (szD 0 (es.take k)) es[k] := by
  rw [List.take_succ, List.getElem?_eq_getElem hk]
  exact sz_snoc
theorem so_loop {M : Nat} : ∀ (es : List Dd) (n : Nat) (pre : List Nat), FitDs M n es → pre.length + es.length < 1000 →
    vLoop (tName 2) lb_sizes_of_1 (es.map ddD) [.no, .ow (.lst ((pre ++ [n]).map natD)), .no] = .nx [.no, .ow (.lst ((pre ++ szL n es).map natD)), .no]
  | [], n, pre, _, _ => rfl
  | e :: es, n, pre, hf, hl => by
    rw [List.length_cons] at hl
    have ih := so_loop es (nsz n e) (pre ++ [n]) hf.2 (by simp; omega)
    have el : atI ((pre ++ [n]).map natD) (-1) = some (.int n) := by rw [List.map_append]; exact atI_last2 _ _
    have ll : ((pre ++ [n]).map natD).length < 16777216 := by simp; omega
    have w1 := way_in e.1
    have d0 := dd_0 e
    have eb : lb_sizes_of_1 [.no, .ow (.lst ((pre ++ [n]).map natD)), .va (ddD e)] = .nx [.no, .ow (.lst ((pre ++ [n] ++ [nsz n e]).map natD)), .no] := by
      rw [List.map_append (l₂ := [nsz n e])]
      have hfit := hf.1
      unfold fit1 at hfit
      unfold nsz
      generalize (pre ++ [n]).map natD = P at *
      generalize ddD e = dd at *
      generalize wayS e.1 = ws at *
      cases hw : e.1 with
      | true =>
        rw [hw] at w1
        simp [lb_sizes_of_1, el, d0, w1, ll, natD]
      | false =>
        rw [hw] at w1 hfit
        have h5 : ((n - 1 : Nat) : Int) = (n : Int) + -1 := by
          have : e.2 < n := by simpa using hfit
          omega
        simp [lb_sizes_of_1, el, d0, w1, ll, natD, h5]
    rw [List.map_cons, vLoop_nx (de1 := [.no, .ow (.lst ((pre ++ [n]).map natD)), .va (ddD e)]) (by simp) eb, ih, szL, List.append_assoc]
    rfl
theorem p_sizes (M : Nat) (es : List Dd) (h : FitDs M 0 es) (hl : es.length ≤ 300) : m_sizes_of [dsD es] = .retF (szsD es) none := by
  have e1 := so_loop es 0 [] h (by simp; omega)
  have ei := items_dsD es
  have e0 : D.lst [.int 0] = .lst (([] ++ [0]).map natD) := rfl
  have e2 : D.lst (([] ++ szL 0 es).map natD) = szsD es := rfl
  rw [e2] at e1
  generalize D.lst (([] ++ [0]).map natD) = T0 at *
  generalize szsD es = SZ at *
  generalize dsD es = DS at *
  simp [m_sizes_of, DL.run, e_sizes_of, ei, e0, e1]
/-! ### the cost table -/
def rowsAt (R : Rm) (es : List Dd) (i : Nat) : List (List Nat) := tuplesOf (List.range R.L) (szD 0 (es.take i))
def TOk (R : Rm) (es : List Dd) (i : Nat) (t : TK) : Prop := ∀ k : KpH, lkK t k = if i ≤ k.1 ∧ k.1 ≤ es.length ∧ k.2 ∈ rowsAt R es k.1 then some (bc R (es.drop k.1) k.2) else none
def sumRows (R : Rm) (es : List Dd) : Nat → Nat
  | 0 => 0
  | k + 1 => sumRows R es k + (rowsAt R es k).length
structure Rm.Ok4 (R : Rm) : Prop where
  ok : R.Ok
  m4 : R.M ≤ 4
theorem rowsAt_le {R : Rm} (hR : R.Ok4) {es : List Dd} (hf : FitDs R.M 0 es) (i : Nat) : (rowsAt R es i).length ≤ 2744 := by
  have h1 := sz_le (Nat.zero_le _) (fits_pre i hf)
  have h2 := hR.m4
  have h3 := hR.ok.l8
  unfold rowsAt
  cases h : szD 0 (es.take i) with
  | zero => simp [tuplesOf]
  | succ n =>
    have h4 := tuplesOf_len7 (List.range R.L) (by simpa using h3) n
    have h5 : 7 ^ n ≤ 7 ^ 3 := Nat.pow_le_pow_right (by decide) (by omega)
    omega
theorem rowsAt_nd (R : Rm) (es : List Dd) (i : Nat) : (rowsAt R es i).Nodup := tuples_nd _ List.nodup_range _
theorem sumTo_le {R : Rm} (hR : R.Ok4) {es : List Dd} (hf : FitDs R.M 0 es) : ∀ k, sumRows R es k ≤ k * 2744
  | 0 => Nat.le_refl _
  | k + 1 => by
    have h1 := sumTo_le hR hf k
    have h2 := rowsAt_le hR hf k
    rw [sumRows, Nat.add_mul]
    omega
theorem rowsAt_std {R : Rm} {es : List Dd} (hf : FitDs R.M 0 es) {i : Nat} {row : List Nat} (h : row ∈ rowsAt R es i) : Std R row ∧ row.length = szD 0 (es.take i) := by
  have h1 := sz_le (Nat.zero_le _) (fits_pre i hf)
  unfold rowsAt at h
  obtain ⟨g1, g2⟩ := tuplesOf_std _ _ row h
  have gl := tuplesOf_row _ _ row h
  exact ⟨⟨g1, fun x hx => List.mem_range.mp (g2 x hx), by omega⟩, gl⟩
theorem mem_rowsAt {R : Rm} {es : List Dd} {i : Nat} {row : List Nat} (hs : Std R row) (hl : row.length = szD 0 (es.take i)) : row ∈ rowsAt R es i :=
  mem_tuplesOf _ _ row hl hs.up fun x hx => List.mem_range.mpr (hs.lt x hx)
theorem aft_rowsAt {R : Rm} {es : List Dd} (hf : FitDs R.M 0 es) {i : Nat} (hi : i < es.length) {row fo : List Nat} (h : row ∈ rowsAt R es i) (hfo : fo ∈ aft R row es[i]) : fo ∈ rowsAt R es (i + 1) := by
  obtain ⟨g1, g2⟩ := rowsAt_std hf h
  have hfit := fits_at hf i hi
  obtain ⟨k1, k2⟩ := aft_std g1 (by rw [g2]; exact hfit) fo hfo
  exact mem_rowsAt k1 (by rw [k2, g2, sz_take i hi])
theorem drop_at {es : List Dd} {i : Nat} (hi : i < es.length) : es.drop i = es[i] :: es.drop (i + 1) := List.drop_eq_getElem_cons hi
theorem TOk.fill {R : Rm} {es : List Dd} {i : Nat} {t : TK} (h : TOk R es (i + 1) t) (hi : i ≤ es.length) : TOk R es i (fillK i (bc R (es.drop i)) (rowsAt R es i) t) := fun k => by
  rw [lkK_fill, h k]
  by_cases c : k.1 = i
  · rw [c]
    by_cases c2 : k.2 ∈ rowsAt R es i
    · rw [if_pos ⟨rfl, c2⟩, if_pos ⟨Nat.le_refl _, hi, c2⟩]
    · rw [if_neg (fun z => c2 z.2), if_neg (fun z => by omega), if_neg (fun z => c2 z.2.2)]
  · rw [if_neg (fun z => c z.1)]
    by_cases c2 : i + 1 ≤ k.1
    · have : (i + 1 ≤ k.1 ∧ k.1 ≤ es.length ∧ k.2 ∈ rowsAt R es k.1) ↔ (i ≤ k.1 ∧ k.1 ≤ es.length ∧ k.2 ∈ rowsAt R es k.1) := ⟨fun z => ⟨by omega, z.2⟩, fun z => ⟨c2, z.2⟩⟩
      simp only [this]
    · rw [if_neg (fun z => c2 z.1), if_neg (fun z => by omega)]
theorem TOk.flen {R : Rm} {es : List Dd} {i : Nat} {t : TK} (h : TOk R es (i + 1) t) : (fillK i (bc R (es.drop i)) (rowsAt R es i) t).length = t.length + (rowsAt R es i).length :=
  fillK_len i _ _ t (rowsAt_nd R es i) fun r _ => by rw [h (i, r), if_neg (fun z => by have := z.1; omega)]
theorem ct_b1 (R : Rm) (hR : R.Ok4) (es : List Dd) (hf : FitDs R.M 0 es) (i : Nat) (hi : i < es.length) (row : List Nat) (hrow : row ∈ rowsAt R es i) (t : TK) (ht : t.length < 16777216) (hn : ∀ fo ∈ rowsAt R es (i + 1), lkK t (i + 1, fo) = some (bc R (es.drop (i + 1)) fo)) (DS SZ : D) :
    lb_cost_table_1 [.va (roomD R), .va DS, .va SZ, .ow (dicK t), .va (tupN row), .va (.int i), .va (ddD es[i]), .no, .no, .no] = .nx [.va (roomD R), .va DS, .va SZ, .ow (dicK (putK t (i, row) (bc R (es.drop i) row))), .no, .va (.int i), .va (ddD es[i]), .no, .no, .no] := by
  obtain ⟨g1, g2⟩ := rowsAt_std hf hrow
  have hfit : fit1 R.M row.length es[i] := by rw [g2]; exact fits_at hf i hi
  have e1 := p_after_all R hR.ok row g1 es[i] hfit
  have e3 : itemsOf (lstT (aft R row es[i])) = some ((aft R row es[i]).map tupN) := rfl
  have el : (aft R row es[i]).length ≤ 16777216 := by
    have h2 := hR.m4
    have h3 := hR.ok.l8
    unfold aft
    split
    · have := tuplesOf_len (List.range R.L) (by simpa using h3) (row.length + 1)
      have hsz := g1.sz
      have : 8 ^ (row.length + 1) ≤ 8 ^ 5 := Nat.pow_le_pow_right (by decide) (by omega)
      omega
    · simp
  have e4 := lcGo_map (vs := [8]) (g := tName 8) (te := vO2 fAdd (.e (wCall 4 none m_paid_for [] (cVal (vVar 0) (cVal (vVar 4) (cVal (vVar 6) (cVal (vVar 8) (cNil))))))) (.e (vO2 fIxN (.s 3) (.e (vTup (vCons (vO2 fAdd (.s 5) (.e (vC (.int 1)))) (vCons (vVar 8) (vNil)))))))) (de := [.va (roomD R), .va DS, .va SZ, .ow (dicK t), .va (tupN row), .va (.int i), .va (ddD es[i]), .no, .no, .no]) tupN (fun fo => .int (((pay R row es[i] fo : Nat) : Int) + bc R (es.drop (i + 1)) fo)) (aft R row es[i]) fun fo hfo => by
    have p1 := p_pay R hR.ok row g1 es[i] hfit fo hfo
    have p2 := hn fo (aft_rowsAt hf hi hrow hfo)
    have p3 : D.tup [.int ((i : Int) + 1), tupN fo] = kpD (i + 1, fo) := rfl
    exact ⟨[.va (roomD R), .va DS, .va SZ, .ow (dicK t), .va (tupN row), .va (.int i), .va (ddD es[i]), .no, .va (tupN fo), .no], [.va (roomD R), .va DS, .va SZ, .ow (dicK t), .va (tupN row), .va (.int i), .va (ddD es[i]), .no, .va (tupN fo), .no], rfl, by simp [p1, p2, p3], rfl⟩
  have e5 := lcGo_map (vs := [9]) (g := tName 9) (te := vON fInt [(.s 9)]) (de := [.va (roomD R), .va DS, .va SZ, .ow (dicK t), .va (tupN row), .va (.int i), .va (ddD es[i]), .va (.lst ((aft R row es[i]).map fun fo => .int (((pay R row es[i] fo : Nat) : Int) + bc R (es.drop (i + 1)) fo))), .no, .no]) (fun d : D => d) (fun d => d) ((aft R row es[i]).map fun fo => D.int (((pay R row es[i] fo : Nat) : Int) + bc R (es.drop (i + 1)) fo)) fun d hd => by
    obtain ⟨fo, _, rfl⟩ := List.mem_map.mp hd
    exact ⟨[.va (roomD R), .va DS, .va SZ, .ow (dicK t), .va (tupN row), .va (.int i), .va (ddD es[i]), .va (.lst ((aft R row es[i]).map fun fo => .int (((pay R row es[i] fo : Nat) : Int) + bc R (es.drop (i + 1)) fo))), .no, .va (.int (((pay R row es[i] fo : Nat) : Int) + bc R (es.drop (i + 1)) fo))], [.va (roomD R), .va DS, .va SZ, .ow (dicK t), .va (tupN row), .va (.int i), .va (ddD es[i]), .va (.lst ((aft R row es[i]).map fun fo => .int (((pay R row es[i] fo : Nat) : Int) + bc R (es.drop (i + 1)) fo))), .no, .va (.int (((pay R row es[i] fo : Nat) : Int) + bc R (es.drop (i + 1)) fo))], rfl, by simp, rfl⟩
  have eid : ∀ l : List D, l.map (fun d : D => d) = l := fun l => by simp
  rw [eid] at e5
  have hne := aft_ne hR.ok hfit
  have em : fMin [.lst ((aft R row es[i]).map fun fo => D.int (((pay R row es[i] fo : Nat) : Int) + bc R (es.drop (i + 1)) fo))] = some (.int (bc R (es.drop i) row)) := by
    have h1 : ((aft R row es[i]).map fun fo => D.int (((pay R row es[i] fo : Nat) : Int) + bc R (es.drop (i + 1)) fo)) = ((aft R row es[i]).map fun fo => ((pay R row es[i] fo : Nat) : Int) + bc R (es.drop (i + 1)) fo).map D.int := by rw [List.map_map]; rfl
    have h2 : ∀ xs : List Int, asIs (xs.map D.int) = some xs := fun xs => by
      induction xs with
      | nil => rfl
      | cons p ps ih =>
        show asIs (.int p :: ps.map D.int) = _
        unfold asIs
        simp [ih]
    rw [h1, drop_at hi]
    show (asIs _).bind (nz1 minI) = some (.int (minI ((aft R row es[i]).map fun fo => ((pay R row es[i] fo : Nat) : Int) + bc R (es.drop (i + 1)) fo)))
    rw [h2]
    cases h3 : (aft R row es[i]).map fun fo => ((pay R row es[i] fo : Nat) : Int) + bc R (es.drop (i + 1)) fo with
    | nil => exact absurd (List.map_eq_nil_iff.mp h3) hne
    | cons a l => rfl
  have k0 : D.tup [.int (i : Nat), tupN row] = kpD (i, row) := rfl
  have kp := fun s de => dicK_put 3 (bc R (es.drop i) row) (i, row) t s de ht
  have ll : ((aft R row es[i]).map tupN).length ≤ 16777216 := by rw [List.length_map]; exact el
  have ll2 : ((aft R row es[i]).map fun fo => D.int (((pay R row es[i] fo : Nat) : Int) + bc R (es.drop (i + 1)) fo)).length ≤ 16777216 := by rw [List.length_map]; exact el
  generalize lstT (aft R row es[i]) = S at *
  generalize (aft R row es[i]).map tupN = SS at *
  generalize ((aft R row es[i]).map fun fo => D.int (((pay R row es[i] fo : Nat) : Int) + bc R (es.drop (i + 1)) fo)) = CS at *
  generalize bc R (es.drop i) row = b at *
  generalize dicK (putK t (i, row) b) = T2 at *
  by_cases c : es[i].1 = true
  · rw [if_pos c] at e1
    simp [lb_cost_table_1, e1, e3, e4, e5, em, k0, kp, ll, ll2]
  · rw [if_neg c] at e1
    simp [lb_cost_table_1, e1, e3, e4, e5, em, k0, kp, ll, ll2]
theorem ct_l1 (R : Rm) (hR : R.Ok4) (es : List Dd) (hf : FitDs R.M 0 es) (i : Nat) (hi : i < es.length) (t : TK) (ht : t.length + 2744 < 16777216) (h : TOk R es (i + 1) t) (DS SZ : D) :
    vLoop (tName 4) lb_cost_table_1 ((rowsAt R es i).map tupN) [.va (roomD R), .va DS, .va SZ, .ow (dicK t), .no, .va (.int i), .va (ddD es[i]), .no, .no, .no] = .nx [.va (roomD R), .va DS, .va SZ, .ow (dicK (fillK i (bc R (es.drop i)) (rowsAt R es i) t)), .no, .va (.int i), .va (ddD es[i]), .no, .no, .no] := by
  have hle := rowsAt_le hR hf i
  exact (vLoop_foldI tupN (fun t => [.va (roomD R), .va DS, .va SZ, .ow (dicK t), .no, .va (.int i), .va (ddD es[i]), .no, .no, .no]) (fun t row => putK t (i, row) (bc R (es.drop i) row)) (fun l t => (∀ r ∈ l, r ∈ rowsAt R es i) ∧ t.length + l.length < 16777216 ∧ ∀ fo ∈ rowsAt R es (i + 1), lkK t (i + 1, fo) = some (bc R (es.drop (i + 1)) fo)) (rowsAt R es i) t ⟨fun _ h => h, by omega, fun fo hfo => by rw [h (i + 1, fo), if_pos ⟨Nat.le_refl _, hi, hfo⟩]⟩ fun row l t ⟨h1, h2, h3⟩ => by
    rw [List.length_cons] at h2
    have h4 := fillK_le i (bc R (es.drop i)) [row] t
    have h4 : (putK t (i, row) (bc R (es.drop i) row)).length ≤ t.length + 1 := h4
    refine ⟨⟨fun x hx => h1 x (List.mem_cons_of_mem _ hx), by omega, fun fo hfo => ?_⟩, _, rfl, .inl (ct_b1 R hR es hf i hi row (h1 row List.mem_cons_self) t (by omega) h3 DS SZ)⟩
    rw [lkK_put, if_neg (fun z => by have : i = i + 1 := congrArg Prod.fst z; omega)]
    exact h3 fo hfo).1
theorem ct_loop (R : Rm) (hR : R.Ok4) (es : List Dd) (hf : FitDs R.M 0 es) (hl : es.length ≤ 300) : ∀ (i : Nat), i ≤ es.length → ∀ t : TK, TOk R es i t → t.length + sumRows R es i = sumRows R es (es.length + 1) →
    ∃ t', vLoop (tName 5) lb_cost_table_2 (((List.range i).map natD).reverse) [.va (roomD R), .va (dsD es), .va (szsD es), .ow (dicK t), .no, .no, .no, .no, .no, .no] = .nx [.va (roomD R), .va (dsD es), .va (szsD es), .ow (dicK t'), .no, .no, .no, .no, .no, .no] ∧ TOk R es 0 t' ∧ t'.length = sumRows R es (es.length + 1)
  | 0, _, t, h1, h2 => ⟨t, rfl, h1, h2⟩
  | i + 1, hi, t, h1, h2 => by
    have hb := sumTo_le hR hf (es.length + 1)
    have hb2 : (es.length + 1) * 2744 ≤ 301 * 2744 := Nat.mul_le_mul (by omega) (Nat.le_refl _)
    have e1 := ct_l1 R hR es hf i hi t (by omega) h1 (dsD es) (szsD es)
    obtain ⟨t', e2, h3, h4⟩ := ct_loop R hR es hf hl i (by omega) (fillK i (bc R (es.drop i)) (rowsAt R es i) t) (h1.fill (by omega)) (by
      rw [h1.flen]
      rw [sumRows] at h2
      omega)
    refine ⟨t', ?_, h3, h4⟩
    have hz := sz_le (Nat.zero_le _) (fits_pre i hf)
    have e3 := p_standings1 R hR.ok (szD 0 (es.take i)) hz
    have e4 := szs_at es i (by omega)
    have e5 := ds_at es i hi
    have e6 : itemsOf (lstT (tuplesOf (List.range R.L) (szD 0 (es.take i)))) = some ((rowsAt R es i).map tupN) := rfl
    have eb : lb_cost_table_2 [.va (roomD R), .va (dsD es), .va (szsD es), .ow (dicK t), .no, .va (.int i), .no, .no, .no, .no] = .nx [.va (roomD R), .va (dsD es), .va (szsD es), .ow (dicK (fillK i (bc R (es.drop i)) (rowsAt R es i) t)), .no, .no, .no, .no, .no, .no] := by
      generalize lstT (tuplesOf (List.range R.L) (szD 0 (es.take i))) = S at *
      generalize dicK (fillK i (bc R (es.drop i)) (rowsAt R es i) t) = T2 at *
      generalize (rowsAt R es i).map tupN = SS at *
      generalize szD 0 (es.take i) = z at *
      generalize dsD es = DS at *
      generalize szsD es = SZ at *
      simp [lb_cost_table_2, e1, e3, e4, e5, e6]
    rw [List.range_succ, List.map_append, List.reverse_append]
    exact (vLoop_nx (de1 := [.va (roomD R), .va (dsD es), .va (szsD es), .ow (dicK t), .no, .va (.int i), .no, .no, .no, .no]) (by simp [natD]) eb).trans e2
theorem dcGo_K {g : D → DEnv → Option DEnv} {tv tk : DEnv → Rs D} {vs : List Nat} {de : DEnv} (i : Nat) : ∀ (rows : List (List Nat)) (acc : TK), (∀ r ∈ rows, ∃ de1 de2 de3, g (tupN r) de = some de1 ∧ tk de1 = .ok (kpD (i, r)) de2 ∧ tv de2 = .ok (.int 0) de3 ∧ wipeD de3 vs = de) →
    dcGo vs g vYes tk tv (rows.map tupN) (entK acc) de = some (entK (fillK i (fun _ => 0) rows acc), de)
  | [], acc, _ => rfl
  | r :: rows, acc, h => by
    obtain ⟨de1, de2, de3, h1, h2, h3, h4⟩ := h r List.mem_cons_self
    rw [List.map_cons, dcGo, h1]
    show (match vYes de1 with | _ => _) = _
    simp only [Option.bind_some, vYes, h2, h3, kp_key]
    rw [h4, putN_K]
    exact dcGo_K i rows (putK acc (i, r) 0) fun x hx => h x (List.mem_cons_of_mem _ hx)
theorem p_cost (R : Rm) (hR : R.Ok4) (es : List Dd) (hf : FitDs R.M 0 es) (hl : es.length ≤ 300) : ∃ t, m_cost_table [roomD R, dsD es] = .retF (dicK t) none ∧ TOk R es 0 t ∧ t.length = sumRows R es (es.length + 1) := by
  have hz := sz_le (Nat.zero_le _) hf
  have e1 := p_sizes R.M es hf hl
  have e2 := szs_last es
  have e3 := p_standings1 R hR.ok (szD 0 es) hz
  have er : rowsAt R es es.length = tuplesOf (List.range R.L) (szD 0 es) := by unfold rowsAt; rw [List.take_length]
  have hnil : TOk R es (es.length + 1) [] := fun k => by rw [if_neg (fun z => by omega)]; rfl
  have h0 := hnil.fill (Nat.le_refl _)
  have h1 := hnil.flen
  rw [List.drop_length] at h0 h1
  obtain ⟨t', e4, h3, h4⟩ := ct_loop R hR es hf hl es.length (Nat.le_refl _) _ h0 (by rw [h1, sumRows]; simp; omega)
  refine ⟨t', ?_, h3, h4⟩
  have e5 : fLen [dsD es] = some (.int es.length) := by simp [dsD]
  have hle := rowsAt_le hR hf es.length
  have e6 := dcGo_K (g := tName 4) (vs := [4]) (tk := vTup (vCons (vON fLen [(.s 1)]) (vCons (vVar 4) (vNil)))) (tv := vC (.int 0)) (de := [.va (roomD R), .va (dsD es), .va (szsD es), .no, .no, .no, .no, .no, .no, .no]) es.length (rowsAt R es es.length) [] fun r hr => by
    have k0 : D.tup [.int (es.length : Nat), tupN r] = kpD (es.length, r) := rfl
    exact ⟨[.va (roomD R), .va (dsD es), .va (szsD es), .no, .va (tupN r), .no, .no, .no, .no, .no], [.va (roomD R), .va (dsD es), .va (szsD es), .no, .va (tupN r), .no, .no, .no, .no, .no], [.va (roomD R), .va (dsD es), .va (szsD es), .no, .va (tupN r), .no, .no, .no, .no, .no], rfl, by simp [e5, k0], rfl, rfl⟩
  have hne : entK (fillK es.length (fun _ => 0) (rowsAt R es es.length) []) ≠ [] := by
    intro z
    have q1 := congrArg List.length z
    unfold entK at q1
    rw [List.length_map] at q1
    have h2 : (fillK es.length (fun _ => 0) (rowsAt R es es.length) []).length = ([] : TK).length + (rowsAt R es es.length).length := fillK_len _ _ _ _ (rowsAt_nd R es _) fun _ _ => rfl
    rw [h2] at q1
    have hin := mem_tuplesOf (List.range R.L) (szD 0 es) (List.range (szD 0 es)) List.length_range List.pairwise_lt_range fun x hx => List.mem_range.mpr (Nat.lt_of_lt_of_le (List.mem_range.mp hx) (Nat.le_trans hz hR.ok.ml))
    rw [← er] at hin
    have q2 := List.length_pos_of_mem hin
    simp only [List.length_nil, Nat.zero_add] at q1
    omega
  have e7 : dnD (entK (fillK es.length (fun _ => 0) (rowsAt R es es.length) [])) = dicK (fillK es.length (fun _ => 0) (rowsAt R es es.length) []) := by
    unfold dicK
    cases h : entK (fillK es.length (fun _ => 0) (rowsAt R es es.length) []) with
    | nil => exact absurd h hne
    | cons a l => rfl
  have eb : bc R [] = fun _ => 0 := by funext r; rfl
  rw [eb] at e4
  have er2 : ∀ de, revRA (.int (es.length : Nat)) de = .ok (((List.range es.length).map natD).reverse) de := fun de => by
    unfold revRA
    dsimp only
    rw [if_pos (by omega), ← rangeD0]
    rfl
  have e8 : itemsOf (lstT (tuplesOf (List.range R.L) (szD 0 es))) = some ((rowsAt R es es.length).map tupN) := by rw [er]; rfl
  have hle2 : ((rowsAt R es es.length).map tupN).length ≤ 1000000 := by rw [List.length_map]; omega
  have e6 : dcGo [4] (tName 4) vYes (vTup (vCons (vON fLen [(.s 1)]) (vCons (vVar 4) (vNil)))) (vC (.int 0)) ((rowsAt R es es.length).map tupN) [] [.va (roomD R), .va (dsD es), .va (szsD es), .no, .no, .no, .no, .no, .no, .no] = some (entK (fillK es.length (fun _ => 0) (rowsAt R es es.length) []), [.va (roomD R), .va (dsD es), .va (szsD es), .no, .no, .no, .no, .no, .no, .no]) := e6
  clear hne h0 h1 hnil er
  generalize dicK (fillK es.length (fun _ => 0) (rowsAt R es es.length) []) = T0 at *
  generalize entK (fillK es.length (fun _ => 0) (rowsAt R es es.length) []) = E0 at *
  generalize lstT (tuplesOf (List.range R.L) (szD 0 es)) = S at *
  generalize (rowsAt R es es.length).map tupN = SS at *
  generalize ((List.range es.length).map natD).reverse = RR at *
  generalize szD 0 es = z at *
  generalize dsD es = DS at *
  generalize szsD es = SZ at *
  simp [m_cost_table, DL.run, e_cost_table, vRevR, e1, e2, e3, e4, e5, e6, e7, e8, er2, hle2]
end Lw
set_option maxRecDepth 100000
set_option maxHeartbeats 4000000
set_option exponentiation.threshold 300
set_option autoImplicit false
namespace Lw
open DL L2
theorem p_from3 (R : Rm) (ds : List D) (h : ∀ d ∈ ds, okDd d = true) (hl : ds.length ≤ 300) : m_bad_deed_from [roomD R, .int 0, .lst ds, .int 300] = .ret (optD (fb R.M 0 0 ds)) none := by
  obtain ⟨de, e1⟩ := bd_loop R ds 0 0 h
  have hl' : ¬ (300 : Int) < ds.length := by omega
  cases ef : fb R.M 0 0 ds with
  | none =>
    rw [ef] at e1
    have e1 : vLoop (tgTup 2 (tgCons (tName 4) (tgCons (tName 5) tgNil))) lb_bad_deed_from_1 (enumD 0 ds) [.va (roomD R), .va (.int 0), .no, .no, .no, .no] = .nx de := e1
    simp [m_bad_deed_from, DL.run, e_bad_deed_from, hl', e1, optD]
  | some j =>
    rw [ef] at e1
    have e1 : vLoop (tgTup 2 (tgCons (tName 4) (tgCons (tName 5) tgNil))) lb_bad_deed_from_1 (enumD 0 ds) [.va (roomD R), .va (.int 0), .no, .no, .no, .no] = .ret (.int j) de := e1
    simp [m_bad_deed_from, DL.run, e_bad_deed_from, hl', e1, optD]
theorem p_need_deeds3 (R : Rm) (hR : R.Ok) (es : List Dd) (hf : FitDs R.M 0 es) (hl : es.length ≤ 300) : m_need_deeds [roomD R, dsD es, .int 300] = .ret .non none := by
  have e1 := p_from3 R (es.map ddD) (fun d hd => (fits_okD (Nat.le_trans hR.ml hR.l8) hf d hd).1) (by rw [List.length_map]; exact hl)
  rw [fb_fit hf] at e1
  have e1 : m_bad_deed_from [roomD R, .int 0, dsD es, .int 300] = .ret .non none := e1
  generalize dsD es = DS at *
  simp [m_need_deeds, DL.run, e_need_deeds, e1]
theorem p_need_ahead (R : Rm) (hR : R.Ok) (hc : cnt R.L (R.M + 1) ≤ 60) (es : List Dd) (hf : FitDs R.M 0 es) (hl : es.length ≤ 300) : m_need_ahead [roomD R, dsD es] = .ret .non none := by
  have e1 := p_need_room R
  have e2 := p_need_deeds3 R hR es hf hl
  have e3 := p_need_few R hR hc
  generalize dsD es = DS at *
  simp [m_need_ahead, DL.run, e_need_ahead, e1, e2, e3]
theorem kp00 : D.tup [.int 0, .tup []] = kpD (0, []) := rfl
theorem row0 {R : Rm} (es : List Dd) : [] ∈ rowsAt R es 0 := by
  unfold rowsAt
  rw [List.take_zero]
  exact List.mem_singleton.mpr rfl
theorem p_least (R : Rm) (hR : R.Ok) (hc : cnt R.L (R.M + 1) ≤ 60) (es : List Dd) (hf : FitDs R.M 0 es) (hl : es.length ≤ 300) (t : TK) (ht : TOk R es 0 t) (ec : m_cost_table [roomD R, dsD es] = .retF (dicK t) none) : m_least_total [roomD R, dsD es] = .ret (.int (bc R es [])) none := by
  have e1 := p_need_ahead R hR hc es hf hl
  have e2 := kp00
  have e3 : lkK t (0, []) = some (bc R es []) := by rw [ht (0, []), if_pos ⟨Nat.le_refl _, Nat.zero_le _, row0 es⟩]; rfl
  generalize dsD es = DS at *
  simp [m_least_total, DL.run, e_least_total, e1, e2, ec, e3]
theorem p_cert (R : Rm) (hR : R.Ok) (hc : cnt R.L (R.M + 1) ≤ 60) (es : List Dd) (hf : FitDs R.M 0 es) (hl : es.length ≤ 300) (t : TK) (ec : m_cost_table [roomD R, dsD es] = .retF (dicK t) none) : m_plan_certificate [roomD R, dsD es] = .retF (dicK t) none := by
  have e1 := p_need_ahead R hR hc es hf hl
  generalize dsD es = DS at *
  generalize dicK t = T at *
  simp [m_plan_certificate, DL.run, e_plan_certificate, e1, ec]
/-! ### a plan -/
theorem items_lstT2 (rows : List (List Nat)) : itemsOf (lstT rows) = some (rows.map tupN) := rfl
end Lw
set_option maxRecDepth 100000
set_option maxHeartbeats 4000000
set_option exponentiation.threshold 300
set_option autoImplicit false
namespace Lw
open DL L2
theorem szs_lastI (es : List Dd) : atI ((szL 0 es).map natD) (-1) = some (.int (szD 0 es)) := by
  simp [atI_neg1, szL_last, natD]
theorem TOk.at {R : Rm} {es : List Dd} {t : TK} (h : TOk R es 0 t) {i : Nat} (hi : i ≤ es.length) {row : List Nat} (hr : row ∈ rowsAt R es i) : lkK t (i, row) = some (bc R (es.drop i) row) := by
  rw [h (i, row), if_pos ⟨Nat.zero_le _, hi, hr⟩]
theorem rowsAt_end {R : Rm} {es : List Dd} : rowsAt R es es.length = tuplesOf (List.range R.L) (szD 0 es) := by unfold rowsAt; rw [List.take_length]
end Lw
set_option maxRecDepth 100000
set_option maxHeartbeats 4000000
set_option exponentiation.threshold 300
set_option autoImplicit false
namespace Lw
open DL L2
/-! ### possible deeds drawn from the empty row on, the room told by its values -/
theorem l3_step {n : Nat} (R : Rm) (hR : R.Ok) (mi : Int) (es : List Dd) (hf0 : FitDs R.M 0 es) (hl : es.length < 1000) (s : DS) (ho : Ok (n + 2) s) (k : Int) :
    ∃ (e : Dd) (s' : DS), lb__law_deeds_1 [.pn (stD s), .va (valsD R), .no, .va (.int (szD 0 es)), .ow (.lst (es.map ddD)), .va (.int k)] = .nx [.pn (stD s'), .va (valsD R), .no, .va (.int (szD 0 (es ++ [e]))), .ow (.lst ((es ++ [e]).map ddD)), .no] ∧ FitDs R.M 0 (es ++ [e]) ∧ Ok n s' := by
  have hM := hR.m1
  have hM8 : R.M ≤ 8 := by have := hR.ml; have := hR.l8; omega
  have hl2 : es.length < 16777216 := by omega
  have hsz := sz_le (Nat.zero_le R.M) hf0
  have hs2 : ∀ e, szD 0 (es ++ [e]) = nsz (szD 0 es) e := fun e => sz_snoc
  have ap : ∀ e, fit1 R.M (szD 0 es) e → FitDs R.M 0 (es ++ [e]) := fun e h => fit_snoc hf0 h
  generalize szD 0 es = size at *
  have eo : ∀ p : Nat, D.tup [.str "out", .int p] = ddD (false, p) := fun _ => rfl
  have ei : ∀ p : Nat, D.tup [.str "in", .int p] = ddD (true, p) := fun _ => rfl
  have i1 : fIx (valsD R) (.int 1) = some (.int R.M) := rfl
  generalize valsD R = vR at *
  by_cases hf : size = R.M
  · obtain ⟨p, s', e, hp, o'⟩ := h_draw (n := n + 1) s (size : Int) ho (by omega) (by omega)
    have e5 : ((size - 1 : Nat) : Int) = (size : Int) - 1 := by omega
    refine ⟨(false, p), s', ?_, ap _ (show p < size by omega), o'.mono (by omega)⟩
    rw [hs2]
    have hf' : (size : Int) = R.M := by omega
    rw [hf'] at e
    simp [lb__law_deeds_1, i1, e, hl2, nsz, hf, eo]
    omega
  have hf' : ¬ (size : Int) = R.M := by omega
  by_cases h0 : 0 < size
  · obtain ⟨r, s1, e1, _, o1⟩ := h_draw (n := n + 1) s 3 ho (by decide) (by decide)
    by_cases hr : r = 0
    · have hr' : (r : Int) = 0 := by omega
      subst hr
      obtain ⟨p, s', e, hp, o'⟩ := h_draw (n := n) s1 (size : Int) o1 (by omega) (by omega)
      have e5 : ((size - 1 : Nat) : Int) = (size : Int) - 1 := by omega
      refine ⟨(false, p), s', ?_, ap _ (show p < size by omega), o'⟩
      rw [hs2]
      have e1 : m__law_draw [stD s, .int 3] = .ret (.int 0) (some (stD s1)) := e1
      simp [lb__law_deeds_1, i1, hf', hf, h0, e1, e, hl2, nsz, e5, eo]
    · have hr' : ¬ (r : Int) = 0 := by omega
      obtain ⟨p, s', e, hp, o'⟩ := h_draw (n := n) s1 ((size : Int) + 1) o1 (by omega) (by omega)
      refine ⟨(true, p), s', ?_, ap _ (show size < R.M ∧ p ≤ size by omega), o'⟩
      rw [hs2]
      simp [lb__law_deeds_1, i1, hf', hf, h0, e1, hr, hr', e, hl2, nsz, ei]
  · obtain ⟨p, s', e, hp, o'⟩ := h_draw (n := n + 1) s ((size : Int) + 1) ho (by omega) (by omega)
    have h1 : size = 0 := by omega
    subst h1
    have e' : m__law_draw [stD s, .int 1] = .ret (.int p) (some (stD s')) := by simpa using e
    have g1 : ¬ R.M = 0 := by omega
    have g2 : ¬ (0 : Int) = R.M := by omega
    refine ⟨(true, p), s', ?_, ap _ (show 0 < R.M ∧ p ≤ 0 by omega), o'.mono (by omega)⟩
    rw [hs2]
    simp [lb__law_deeds_1, i1, g1, g2, e', hl2, nsz, ei]
theorem h_deeds3 {n : Nat} (R : Rm) (hR : R.Ok) (s : DS) (m : Nat) (mi : Int) (hmi : mi = m) (hm : m ≤ 200) (ho : Ok (n + 2 * m) s) :
    ∃ (es : List Dd) (s' : DS), m__law_deeds [stD s, valsD R, .int mi] = .retF (.lst (es.map ddD)) (some (stD s')) ∧ FitDs R.M 0 es ∧ es.length = m ∧ Ok n s' := by
  subst hmi
  obtain ⟨de, e, es, s', rfl, h1, h2, h3⟩ := vLoop_range (g := tName 5) (tb := lb__law_deeds_1) (fun k de => ∃ (es : List Dd) (s' : DS), de = [.pn (stD s'), .va (valsD R), .no, .va (.int (szD 0 es)), .ow (.lst (es.map ddD)), .no] ∧ FitDs R.M 0 es ∧ es.length = k ∧ Ok (n + 2 * (m - k)) s') m
    [.pn (stD s), .va (valsD R), .no, .va (.int 0), .ow (.lst []), .no] ⟨[], s, rfl, trivial, rfl, ho.mono (by omega)⟩ (fun k hk de ⟨es, s1, e1, e2, e3, e4⟩ => by
      subst e1
      obtain ⟨x, s2, f1, f2, f3⟩ := l3_step (n := n + 2 * (m - (k + 1))) R hR 0 es e2 (by omega) s1 (e4.mono (by omega)) k
      exact ⟨_, _, rfl, .inl f1, es ++ [x], s2, rfl, f2, by simp [e3], f3⟩)
  have er := rngE (j := (m : Int)) (n := m) rfl (by omega)
  refine ⟨es, s', ?_, h1, h2, h3.mono (by omega)⟩
  generalize valsD R = vR at *
  simp [m__law_deeds, DL.run, e__law_deeds, er, e]
end Lw
set_option maxRecDepth 100000
set_option maxHeartbeats 4000000
set_option exponentiation.threshold 300
set_option autoImplicit false
namespace Lw
open DL L2
/-! ### tables by index and row, of any values -/
namespace K
theorem vLoop_fs {g : D → DEnv → Option DEnv} {tb : DEnv → Ot} {α : Type} (em : α → D) (de : DEnv) (f : α → Option D) : ∀ l : List α, (∀ a ∈ l, ∃ de1, g (em a) de = some de1 ∧ (f a = none → tb de1 = .nx de) ∧ (∀ z, f a = some z → ∃ de2, tb de1 = .ret z de2)) →
    (l.findSome? f = none → vLoop g tb (l.map em) de = .nx de) ∧ (∀ z, l.findSome? f = some z → ∃ de2, vLoop g tb (l.map em) de = .ret z de2)
  | [], _ => ⟨fun _ => rfl, fun z h => by cases h⟩
  | a :: l, h => by
    obtain ⟨de1, h1, h2, h3⟩ := h a List.mem_cons_self
    have ih := vLoop_fs (g := g) (tb := tb) em de f l fun x hx => h x (List.mem_cons_of_mem _ hx)
    rw [List.findSome?_cons, List.map_cons]
    cases e : f a with
    | none =>
      dsimp only
      rw [vLoop_nx h1 (h2 e)]
      exact ih
    | some z =>
      dsimp only
      refine ⟨fun h => by (cases h), fun z2 hz => ?_⟩
      cases hz
      obtain ⟨de2, h4⟩ := h3 z e
      exact ⟨de2, by rw [ps180, h1, ps181, h4]; rfl⟩
def optF : Option D → D
  | none => .non
  | some z => z
def idD : D → D := fun d => d
section
variable {α : Type} (v : α → D)
def entG (t : List (KpH × α)) : List (D × D) := t.map fun e => (kpD e.1, v e.2)
def dicG (t : List (KpH × α)) : D := .dn (entG v t)
def lkG : List (KpH × α) → KpH → Option α
  | [], _ => none
  | e :: t, k => if e.1 = k then some e.2 else lkG t k
def putG : List (KpH × α) → KpH → α → List (KpH × α)
  | [], k, a => [(k, a)]
  | e :: t, k, a => if e.1 = k then (e.1, a) :: t else e :: putG t k a
theorem valN_G (k : KpH) : ∀ t : List (KpH × α), valN (entG v t) (nkp k) = (lkG t k).map v
  | [] => rfl
  | e :: t => by
    show (if keyN (kpD e.1) = some (nkp k) then some (v e.2) else valN (entG v t) (nkp k)) = _
    rw [valN_G k t]
    show _ = Option.map v (if e.1 = k then some e.2 else lkG t k)
    by_cases h : e.1 = k
    · rw [if_pos h, if_pos ((nkp_eq e.1 k).mpr h)]; rfl
    · rw [if_neg h, if_neg (fun z => h ((nkp_eq e.1 k).mp z))]
theorem putN_G (k : KpH) (a : α) : ∀ t : List (KpH × α), putN (entG v t) (nkp k) (kpD k) (v a) = entG v (putG t k a)
  | [] => rfl
  | e :: t => by
    show (if keyN (kpD e.1) = some (nkp k) then (kpD e.1, v a) :: entG v t else (kpD e.1, v e.2) :: putN (entG v t) (nkp k) (kpD k) (v a)) = _
    rw [putN_G k a t]
    show _ = entG v (if e.1 = k then (e.1, a) :: t else e :: putG t k a)
    by_cases h : e.1 = k
    · rw [if_pos h, if_pos ((nkp_eq e.1 k).mpr h)]; rfl
    · rw [if_neg h, if_neg (fun z => h ((nkp_eq e.1 k).mp z))]; rfl
theorem dic0_put1 (i : Nat) (a : α) (k : KpH) (t : List (KpH × α)) (s : Sl) (de : DEnv) (h : t.length < 16777216) : putNA i (v a) (kpD k) de (some (s, dicG v t)) = .nx (de.set i (s.same (dicG v (putG t k a)))) := by
  have hl : (entG v t).length < 16777216 := by unfold entG; rw [List.length_map]; exact h
  unfold putNA
  unfold dicG entN
  dsimp only
  rw [kp_key]
  dsimp only
  rw [if_pos hl, putN_G]
@[simp] theorem dicG_ix0 (t : List (KpH × α)) (b : D) : fIx (dicG v t) b = none := Eq.trans rfl rfl
@[simp] theorem dicG_ix (t : List (KpH × α)) (k : KpH) : orIx none (dicG v t) (kpD k) = (lkG t k).map v := by
  show (keyN (kpD k)).bind (fun k => valN (entG v t) k) = _
  rw [kp_key]
  exact valN_G v k t
@[simp] theorem dicG_in0 (t : List (KpH × α)) (x : D) : fIn x (dicG v t) = none := Eq.trans rfl rfl
@[simp] theorem dicG_nin0 (t : List (KpH × α)) (x : D) : fNotIn x (dicG v t) = none := Eq.trans rfl rfl
@[simp] theorem dicG_in (t : List (KpH × α)) (k : KpH) (g : Bool → Bool) : orIn g none (kpD k) (dicG v t) = some (.bl (g (lkG t k).isSome)) := by
  show (keyN (kpD k)).map (fun k => D.bl (g (valN (entG v t) k).isSome)) = _
  rw [kp_key, Option.map_some, valN_G, Option.isSome_map]
@[simp] theorem dicG_it0 (t : List (KpH × α)) : itemsOf (dicG v t) = none := Eq.trans rfl rfl
@[simp] theorem dicG_it (t : List (KpH × α)) : orIt none (dicG v t) = some (t.map fun e => kpD e.1) := by
  show some ((entG v t).map (·.1)) = _
  unfold entG
  rw [List.map_map]
  rfl
@[simp] theorem dicG_ls (t : List (KpH × α)) : fListN [dicG v t] = some (.lst (t.map fun e => kpD e.1)) := by
  show some (D.lst ((entG v t).map (·.1))) = _
  unfold entG
  rw [List.map_map]
  rfl
@[simp] theorem dicG_tr (t : List (KpH × α)) : truN (dicG v t) = some (!t.isEmpty) := by
  show some (!(entG v t).isEmpty) = _
  cases t <;> rfl
@[simp] theorem dicG_ty (t : List (KpH × α)) : tyOf (dicG v t) = some (.b "dict") := Eq.trans rfl rfl
end
section
variable {α : Type}
theorem lkG_put (t : List (KpH × α)) (k j : KpH) (a : α) : lkG (putG t k a) j = if k = j then some a else lkG t j := by
  induction t with
  | nil => rfl
  | cons e t ih =>
    unfold putG
    by_cases h : e.1 = k
    · rw [if_pos h]
      unfold lkG
      by_cases h2 : k = j
      · rw [if_pos h2, if_pos (h.trans h2)]
      · rw [if_neg h2, if_neg (fun z => h2 (h.symm.trans z)), if_neg (fun z => h2 (h.symm.trans z))]
    · rw [if_neg h]
      show (if e.1 = j then some e.2 else lkG (putG t k a) j) = _
      rw [ih]
      by_cases h2 : e.1 = j
      · have h3 : ¬ k = j := fun z => h (h2.trans z.symm)
        rw [if_pos h2, if_neg h3]
        unfold lkG
        rw [if_pos h2]
      · rw [if_neg h2]
        by_cases h3 : k = j
        · rw [if_pos h3, if_pos h3]
        · rw [if_neg h3, if_neg h3]
          show _ = (if e.1 = j then some e.2 else lkG t j)
          rw [if_neg h2]
def kputG (ks : List KpH) (k : KpH) : List KpH := if k ∈ ks then ks else ks ++ [k]
theorem putG_map (k : KpH) (a : α) : ∀ t : List (KpH × α), (putG t k a).map Prod.fst = kputG (t.map Prod.fst) k
  | [] => rfl
  | e :: t => by
    have ih := putG_map k a t
    unfold kputG at ih ⊢
    unfold putG
    by_cases h : e.1 = k
    · rw [if_pos h, List.map_cons, List.map_cons, if_pos (by rw [h]; exact List.mem_cons_self)]
    · rw [if_neg h, List.map_cons, List.map_cons, ih]
      by_cases h2 : k ∈ t.map Prod.fst
      · rw [if_pos h2, if_pos (List.mem_cons_of_mem _ h2)]
      · rw [if_neg h2, if_neg (fun z => (List.mem_cons.mp z).elim (fun z => h z.symm) h2)]
        rfl
theorem kputG_nd {ks : List KpH} (k : KpH) (h : ks.Nodup) : (kputG ks k).Nodup := by
  unfold kputG
  split
  · exact h
  · rename_i hk
    rw [List.nodup_append]
    exact ⟨h, by simp, fun a ha b hb => by
      cases List.mem_singleton.mp hb
      exact fun z => hk (z ▸ ha)⟩
end
theorem lkG_memD {α : Type} : ∀ {t : List (KpH × α)} {k : KpH} {a : α}, lkG t k = some a → (k, a) ∈ t
  | [], _, _, h => by cases h
  | e :: t, k, a, h => by
    unfold lkG at h
    split at h
    · rename_i c
      cases h
      rw [← c]
      exact List.mem_cons_self
    · exact List.mem_cons_of_mem _ (lkG_memD h)
theorem putG_memD {α : Type} : ∀ (t : List (KpH × α)) (k : KpH) (a : α), ∀ x ∈ putG t k a, x = (k, a) ∨ x ∈ t
  | [], k, a, x, h => .inl (List.mem_singleton.mp h)
  | e :: t, k, a, x, h => by
    unfold putG at h
    by_cases c : e.1 = k
    · rw [if_pos c] at h
      rcases List.mem_cons.mp h with h | h
      · exact .inl (by rw [h, c])
      · exact .inr (List.mem_cons_of_mem _ h)
    · rw [if_neg c] at h
      rcases List.mem_cons.mp h with h | h
      · exact .inr (by rw [h]; exact List.mem_cons_self)
      · rcases putG_memD t k a x h with h | h
        · exact .inl h
        · exact .inr (List.mem_cons_of_mem _ h)
theorem nodup_map_inj {α β : Type} {f : α → β} {l : List α} (h : (l.map f).Nodup) {a b : α} (ha : a ∈ l) (hb : b ∈ l) (e : f a = f b) : a = b := by
  induction l with
  | nil => cases ha
  | cons x l ih =>
    rw [List.map_cons, List.nodup_cons] at h
    rcases List.mem_cons.mp ha with ha | ha
    · rcases List.mem_cons.mp hb with hb | hb
      · rw [ha, hb]
      · exact absurd (List.mem_map.mpr ⟨b, hb, by rw [← e, ha]⟩) h.1
    · rcases List.mem_cons.mp hb with hb | hb
      · exact absurd (List.mem_map.mpr ⟨a, ha, by rw [e, hb]⟩) h.1
      · exact ih h.2 ha hb
theorem nodup_map_of {α β : Type} {f : α → β} {l m : List α} (h : (l.map f).Nodup) (hm : m.Nodup) (hs : ∀ a ∈ m, a ∈ l) : (m.map f).Nodup := by
  induction m with
  | nil => exact List.nodup_nil
  | cons x m ih =>
    rw [List.nodup_cons] at hm
    rw [List.map_cons, List.nodup_cons]
    refine ⟨fun hc => ?_, ih hm.2 fun a ha => hs a (List.mem_cons_of_mem _ ha)⟩
    obtain ⟨b, hb, e⟩ := List.mem_map.mp hc
    have := nodup_map_inj h (hs b (List.mem_cons_of_mem _ hb)) (hs x List.mem_cons_self) e
    exact hm.1 (this ▸ hb)
/-- keys of these, values plain -/
structure FI (ks : List KpH) (F : List (KpH × D)) : Prop where
  nd : (F.map Prod.fst).Nodup
  sub : ∀ x ∈ F, x.1 ∈ ks
  ok : ∀ x ∈ F, Pl x.2 = true
theorem FI.nil (ks : List KpH) : FI ks [] := ⟨by simp, (fun _ h => nomatch h), (fun _ h => nomatch h)⟩
theorem FI.at {ks : List KpH} {F : List (KpH × D)} (h : FI ks F) {k : KpH} {d : D} (e : lkG F k = some d) : Pl d = true := h.ok _ (lkG_memD e)
theorem FI.put {ks : List KpH} {F : List (KpH × D)} (h : FI ks F) {k : KpH} {d : D} (hk : k ∈ ks) (hd : Pl d = true) : FI ks (putG F k d) := by
  refine ⟨?_, fun x hx => ?_, fun x hx => ?_⟩
  · rw [putG_map]
    exact kputG_nd k h.nd
  · rcases putG_memD F k d x hx with e | e
    · rw [e]; exact hk
    · exact h.sub x e
  · rcases putG_memD F k d x hx with e | e
    · rw [e]; exact hd
    · exact h.ok x e
theorem FI.len {ks : List KpH} {F : List (KpH × D)} (h : FI ks F) : F.length ≤ ks.length := by
  have := nd_len (F.map Prod.fst) ks h.nd fun k hk => by
    obtain ⟨x, hx, rfl⟩ := List.mem_map.mp hk
    exact h.sub x hx
  rw [List.length_map] at this
  exact this
/-- the keys that may stand in a table of at most eight deeds -/
def keysA (R : Rm) : List KpH := (List.range 9).flatMap fun i => (List.range (R.M + 1)).flatMap fun n => (tuplesOf (List.range R.L) n).map fun r => (i, r)
theorem keysA_mem {R : Rm} {i n : Nat} {row : List Nat} (hi : i ≤ 8) (hn : n ≤ R.M) (hs : row ∈ tuplesOf (List.range R.L) n) : (i, row) ∈ keysA R :=
  List.mem_flatMap.mpr ⟨i, List.mem_range.mpr (by omega), List.mem_flatMap.mpr ⟨n, List.mem_range.mpr (by omega), List.mem_map.mpr ⟨row, hs, rfl⟩⟩⟩
theorem keysA_at {R : Rm} {es : List Dd} (hf : FitDs R.M 0 es) (hl : es.length ≤ 8) {i : Nat} (hi : i ≤ es.length) {row : List Nat} (hr : row ∈ rowsAt R es i) : (i, row) ∈ keysA R :=
  keysA_mem (by omega) (sz_le (Nat.zero_le _) (fits_pre i hf)) hr
theorem keys_apart : ∀ p ∈ sizesL, ((keysA ⟨p.1, p.2, 0, 0⟩).map fun k => some (nh (nkp k))).Nodup := by
  have : (sizesL.all fun p => decide ((keysA ⟨p.1, p.2, 0, 0⟩).map fun k => some (nh (nkp k))).Nodup) = true := by decide +kernel
  exact fun p hp => of_decide_eq_true (List.all_eq_true.mp this p hp)
theorem h_copyK {R : Rm} (hsz : (R.L, R.M) ∈ sizesL) {F : List (KpH × D)} (h : FI (keysA R) F) : fDictN [dicG idD F] = some (dicG idD F) := by
  have h0 := keys_apart _ hsz
  have h0 : ((keysA R).map fun k => some (nh (nkp k))).Nodup := h0
  have h1 := nodup_map_of h0 h.nd fun k hk => by
    obtain ⟨x, hx, rfl⟩ := List.mem_map.mp hk
    exact h.sub x hx
  have h2 : apartD (entG idD F) = true := by
    refine decide_eq_true ?_
    have e : (entG idD F).map (fun p => (keyN p.1).map nh) = (F.map Prod.fst).map fun k => some (nh (nkp k)) := by
      unfold entG
      rw [List.map_map, List.map_map]
      refine List.map_congr_left fun e _ => ?_
      show (keyN (kpD e.1)).map nh = some (nh (nkp e.1))
      rw [kp_key]
      rfl
    rw [e]
    exact h1
  show (if apartD (entG idD F) = true then some (D.dn (entG idD F)) else none) = some (.dn (entG idD F))
  rw [if_pos h2]
end K
end Lw
set_option maxRecDepth 100000
set_option maxHeartbeats 4000000
set_option exponentiation.threshold 300
set_option autoImplicit false
namespace Lw
open DL L2
/-! ### the fault of a table -/
namespace K
theorem enum_map {α : Type} (em : α → D) (dflt : α) : ∀ (l : List α) (i : Nat), enumD i (l.map em) = (List.range l.length).map fun k => D.tup [.int ((i + k : Nat) : Int), em (l.getD k dflt)]
  | [], _ => rfl
  | a :: l, i => by
    rw [List.map_cons, enumD, enum_map em dflt l (i + 1), List.length_cons, List.range_succ_eq_map, List.map_cons, List.map_map]
    refine List.cons_eq_cons.mpr ⟨rfl, List.map_congr_left fun k _ => ?_⟩
    show D.tup [.int ((i + 1 + k : Nat) : Int), em (l.getD k dflt)] = D.tup [.int ((i + (k + 1) : Nat) : Int), em ((a :: l).getD (k + 1) dflt)]
    rw [show i + 1 + k = i + (k + 1) by omega]
    rfl
def iv : D → Int
  | .int n => n
  | _ => 0
def hv (H : List (KpH × D)) (k : KpH) : Int := match lkG H k with
  | some d => iv d
  | none => 0
def lackK (H : List (KpH × D)) (k : KpH) : Option D := match lkG H k with
  | some d => if isI d = true then none else some (.tup [.str "lacks", .int k.1, tupN k.2])
  | none => some (.tup [.str "lacks", .int k.1, tupN k.2])
theorem lack_int {H : List (KpH × D)} {k : KpH} (h : lackK H k = none) : lkG H k = some (.int (hv H k)) := by
  unfold lackK at h
  unfold hv
  cases e : lkG H k with
  | none => rw [e] at h; cases h
  | some d =>
    rw [e] at h
    dsimp only at h ⊢
    split at h
    · rename_i hi
      obtain ⟨n, rfl⟩ := isI_some hi
      rfl
    · cases h
def keyF (R : Rm) (es : List Dd) (H : List (KpH × D)) : Option D := (List.range (es.length + 1)).findSome? fun i => (rowsAt R es i).findSome? fun row => lackK H (i, row)
def endF (R : Rm) (es : List Dd) (H : List (KpH × D)) : Option D := (rowsAt R es es.length).findSome? fun row => if 0 < hv H (es.length, row) then some (.tup [.str "end", tupN row]) else none
def afF (R : Rm) (H : List (KpH × D)) (i : Nat) (e : Dd) (row fo : List Nat) : Option D := if ((pay R row e fo : Nat) : Int) + hv H (i + 1, fo) < hv H (i, row) then some (.tup [.str "deed", .int i, tupN row, tupN fo]) else none
def dF (R : Rm) (es : List Dd) (H : List (KpH × D)) (i : Nat) : Option D := (rowsAt R es i).findSome? fun row => (aft R row (es.getD i (false, 0))).findSome? (afF R H i (es.getD i (false, 0)) row)
def stF (H : List (KpH × D)) (tot : Int) : Option D := if hv H (0, []) < tot then some (.tup [.str "start"]) else none
def kfF (R : Rm) (es : List Dd) (H : List (KpH × D)) : Option D := match keyF R es H with
  | some z => some z
  | none => endF R es H
def pfF (R : Rm) (es : List Dd) (H : List (KpH × D)) (tot : Int) : Option D := match kfF R es H with
  | some z => some z
  | none => match (List.range es.length).findSome? (dF R es H) with
    | some z => some z
    | none => stF H tot
theorem key_at {R : Rm} {es : List Dd} {H : List (KpH × D)} (h : keyF R es H = none) {i : Nat} (hi : i ≤ es.length) {row : List Nat} (hr : row ∈ rowsAt R es i) : lkG H (i, row) = some (.int (hv H (i, row))) :=
  lack_int (List.findSome?_eq_none_iff.mp (List.findSome?_eq_none_iff.mp h i (List.mem_range.mpr (by omega))) row hr)
def OkT (H : List (KpH × D)) : Prop := ∀ k d, lkG H k = some d → Pl d = true
theorem getD_at {es : List Dd} {i : Nat} (hi : i < es.length) : es.getD i (false, 0) = es[i] := by rw [List.getD_eq_getElem?_getD, List.getElem?_eq_getElem hi]; rfl
theorem szL_getD (es : List Dd) {k : Nat} (hk : k ≤ es.length) : (szL 0 es).getD k 0 = szD 0 (es.take k) := by
  rw [List.getD_eq_getElem?_getD, szL_at 0 es k hk]
  rfl
theorem kf_1 (v0 v1 v3 v5 : Sl) (H : List (KpH × D)) (ho : OkT H) (i : Nat) (row : List Nat) :
    (lackK H (i, row) = none → lb_key_fault_1 [v0, v1, .va (dicG idD H), v3, .va (.int i), v5, .va (tupN row)] = .nx [v0, v1, .va (dicG idD H), v3, .va (.int i), v5, .no]) ∧
    ∀ z, lackK H (i, row) = some z → ∃ de2, lb_key_fault_1 [v0, v1, .va (dicG idD H), v3, .va (.int i), v5, .va (tupN row)] = .ret z de2 := by
  have k0 : D.tup [.int (i : Nat), tupN row] = kpD (i, row) := rfl
  have e1 := dicG_ix idD H (i, row)
  have e0 := dicG_ix0 idD H (kpD (i, row))
  have e3 := dicG_in idD H (i, row) not
  have e30 := dicG_nin0 idD H (kpD (i, row))
  unfold lackK
  cases e : lkG H (i, row) with
  | none =>
    rw [e] at e1 e3
    have e3 : orIn not none (kpD (i, row)) (dicG idD H) = some (.bl true) := e3
    generalize dicG idD H = HD at *
    generalize kpD (i, row) = T at *
    refine ⟨fun h => by (cases h), fun z hz => ?_⟩
    cases hz
    exact ⟨_, by simp [lb_key_fault_1, k0, e3, e30]; rfl⟩
  | some d =>
    rw [e] at e1 e3
    have e3 : orIn not none (kpD (i, row)) (dicG idD H) = some (.bl false) := e3
    have e1 : orIx none (dicG idD H) (kpD (i, row)) = some d := e1
    have ei := p_integer d (ho _ _ e)
    generalize dicG idD H = HD at *
    generalize kpD (i, row) = T at *
    dsimp only
    cases hn : isI d with
    | true =>
      rw [hn] at ei
      rw [if_pos rfl]
      refine ⟨fun _ => ?_, fun z hz => by (cases hz)⟩
      simp [lb_key_fault_1, k0, e1, e0, e3, e30, ei]
    | false =>
      rw [hn] at ei
      rw [if_neg (by decide)]
      refine ⟨fun h => by (cases h), fun z hz => ?_⟩
      cases hz
      exact ⟨_, by simp [lb_key_fault_1, k0, e1, e0, e3, e30, ei]; rfl⟩
theorem p_key_faultK (R : Rm) (hR : R.Ok4) (es : List Dd) (hf : FitDs R.M 0 es) (hl : es.length ≤ 300) (H : List (KpH × D)) (ho : OkT H) : m_key_fault [roomD R, dsD es, dicG idD H] = .ret (optF (kfF R es H)) none := by
  have e1 := p_sizes R.M es hf hl
  obtain ⟨a1, a2⟩ := vLoop_fs (g := tgTup 2 (tgCons (tName 4) (tgCons (tName 5) (tgNil)))) (tb := lb_key_fault_2) (fun k : Nat => D.tup [.int ((0 + k : Nat) : Int), natD ((szL 0 es).getD k 0)]) [.va (roomD R), .va (dsD es), .va (dicG idD H), .va (szsD es), .no, .no, .no] (fun i => (rowsAt R es i).findSome? fun row => lackK H (i, row)) (List.range (es.length + 1)) fun k hk => by
    have hk : k ≤ es.length := by have := List.mem_range.mp hk; omega
    rw [szL_getD es hk, Nat.zero_add]
    refine ⟨[.va (roomD R), .va (dsD es), .va (dicG idD H), .va (szsD es), .va (.int k), .va (.int (szD 0 (es.take k))), .no], by simp [natD], ?_⟩
    have e2 := p_standings1 R hR.ok (szD 0 (es.take k)) (sz_le (Nat.zero_le _) (fits_pre k hf))
    have e3 : itemsOf (lstT (tuplesOf (List.range R.L) (szD 0 (es.take k)))) = some ((rowsAt R es k).map tupN) := rfl
    obtain ⟨b1, b2⟩ := vLoop_fs (g := tName 6) (tb := lb_key_fault_1) tupN [.va (roomD R), .va (dsD es), .va (dicG idD H), .va (szsD es), .va (.int k), .no, .no] (fun row => lackK H (k, row)) (rowsAt R es k) fun row hrow =>
      ⟨[.va (roomD R), .va (dsD es), .va (dicG idD H), .va (szsD es), .va (.int k), .no, .va (tupN row)], by simp, (kf_1 _ _ _ _ H ho k row).1, (kf_1 _ _ _ _ H ho k row).2⟩
    generalize lstT (tuplesOf (List.range R.L) (szD 0 (es.take k))) = S at *
    generalize (rowsAt R es k).map tupN = SS at *
    generalize szD 0 (es.take k) = z at *
    generalize dicG idD H = HD at *
    refine ⟨fun h => ?_, fun z hz => ?_⟩
    · have b1 := b1 h
      simp [lb_key_fault_2, e2, e3, b1]
    · obtain ⟨de2, b2⟩ := b2 z hz
      exact ⟨_, by simp [lb_key_fault_2, e2, e3, b2]; rfl⟩
  have em := enum_map natD 0 (szL 0 es) 0
  rw [szL_len] at em
  rw [← em] at a1 a2
  unfold kfF
  cases hk : keyF R es H with
  | some z =>
    obtain ⟨de2, a2⟩ := a2 z hk
    clear a1
    show m_key_fault [roomD R, dsD es, dicG idD H] = .ret z none
    unfold szsD at *
    generalize (szL 0 es).map natD = ZL at *
    generalize dicG idD H = HD at *
    generalize dsD es = DS at *
    simp [m_key_fault, DL.run, e_key_fault, e1, a2]
  | none =>
    have a1 := a1 hk
    clear a2
    obtain ⟨c1, c2⟩ := vLoop_fs (g := tName 6) (tb := lb_key_fault_3) tupN [.no, .va (dsD es), .va (dicG idD H), .no, .no, .no, .no] (fun row => if 0 < hv H (es.length, row) then some (D.tup [.str "end", tupN row]) else none) (rowsAt R es es.length) fun row hrow => by
      have q := key_at hk (Nat.le_refl _) hrow
      have e1 := dicG_ix idD H (es.length, row)
      rw [q] at e1
      have e1 : orIx none (dicG idD H) (kpD (es.length, row)) = some (.int (hv H (es.length, row))) := e1
      have e0 := dicG_ix0 idD H (kpD (es.length, row))
      have e5 : fLen [dsD es] = some (.int es.length) := by simp [dsD]
      have k0 : D.tup [.int (es.length : Nat), tupN row] = kpD (es.length, row) := rfl
      generalize dsD es = DS at *
      generalize dicG idD H = HD at *
      generalize kpD (es.length, row) = T at *
      refine ⟨[.no, .va DS, .va HD, .no, .no, .no, .va (tupN row)], by simp, fun h => ?_, fun z hz => ?_⟩
      · have h : ¬ 0 < hv H (es.length, row) := fun c => by rw [if_pos c] at h; cases h
        generalize hv H (es.length, row) = x at *
        simp [lb_key_fault_3, e5, k0, e1, e0, h]
      · have h : 0 < hv H (es.length, row) := Classical.byContradiction fun c => by rw [if_neg c] at hz; cases hz
        rw [if_pos h] at hz
        cases hz
        generalize hv H (es.length, row) = x at *
        exact ⟨_, by simp [lb_key_fault_3, e5, k0, e1, e0, h]; rfl⟩
    have e2 := p_standings1 R hR.ok (szD 0 es) (sz_le (Nat.zero_le _) hf)
    have e3 : itemsOf (lstT (tuplesOf (List.range R.L) (szD 0 es))) = some ((rowsAt R es es.length).map tupN) := by rw [rowsAt_end]; rfl
    have e4 := szs_lastI es
    show m_key_fault [roomD R, dsD es, dicG idD H] = .ret (optF (endF R es H)) none
    cases he : endF R es H with
    | none =>
      have c1 := c1 he
      clear c2 ho hk
      unfold szsD at *
      generalize lstT (tuplesOf (List.range R.L) (szD 0 es)) = S at *
      generalize (rowsAt R es es.length).map tupN = SS at *
      generalize (szL 0 es).map natD = ZL at *
      generalize szD 0 es = z at *
      generalize dsD es = DS at *
      generalize dicG idD H = HD at *
      simp [m_key_fault, DL.run, e_key_fault, e1, a1, e4, e2, e3, c1, optF]
    | some z =>
      obtain ⟨de2, c2⟩ := c2 z he
      clear c1 ho hk
      unfold szsD at *
      generalize lstT (tuplesOf (List.range R.L) (szD 0 es)) = S at *
      generalize (rowsAt R es es.length).map tupN = SS at *
      generalize (szL 0 es).map natD = ZL at *
      generalize szD 0 es = zz at *
      generalize dsD es = DS at *
      generalize dicG idD H = HD at *
      simp [m_key_fault, DL.run, e_key_fault, e1, a1, e4, e2, e3, c2, optF]
theorem p_plan_faultK (R : Rm) (hR : R.Ok4) (hc : cnt R.L (R.M + 1) ≤ 60) (es : List Dd) (hf : FitDs R.M 0 es) (hl : es.length ≤ 300) (H : List (KpH × D)) (ho : OkT H) (tot : Int) : m_plan_fault [roomD R, dsD es, .int tot, dicG idD H] = .ret (optF (pfF R es H tot)) none := by
  have e1 := p_sizes R.M es hf hl
  have e2 := p_need_room R
  have e3 := p_need_deeds3 R hR.ok es hf hl
  have e4 := p_need_few R hR.ok hc
  have e5 := p_key_faultK R hR es hf hl H ho
  have e6 : m_need_dict [dicG idD H] = .ret .non none := by simp [m_need_dict, DL.run, e_need_dict]
  have e7 := p_integer (.int tot) rfl
  have e1 : m_sizes_of [.lst (es.map ddD)] = .retF (szsD es) none := e1
  have e3 : m_need_deeds [roomD R, .lst (es.map ddD), .int 300] = .ret .non none := e3
  have e5 : m_key_fault [roomD R, .lst (es.map ddD), dicG idD H] = .ret (optF (kfF R es H)) none := e5
  have e7 : m_is_integer [.int tot] = .ret (.bl true) none := e7
  show m_plan_fault [roomD R, .lst (es.map ddD), .int tot, dicG idD H] = _
  unfold pfF
  have nn : ∀ z, kfF R es H = some z → DL.isNon z = false := fun z hz => by
    unfold kfF at hz
    split at hz
    · cases hz
      rename_i hk
      obtain ⟨i, _, h1⟩ := List.exists_of_findSome?_eq_some hk
      obtain ⟨row, _, h2⟩ := List.exists_of_findSome?_eq_some h1
      unfold lackK at h2
      split at h2
      · split at h2 <;> cases h2
        rfl
      · cases h2
        rfl
    · obtain ⟨row, _, h2⟩ := List.exists_of_findSome?_eq_some hz
      split at h2 <;> cases h2
      rfl
  cases hk : kfF R es H with
  | some z =>
    have nn := nn z hk
    rw [hk] at e5
    have e5 : m_key_fault [roomD R, .lst (es.map ddD), dicG idD H] = .ret z none := e5
    show _ = Fo.ret z none
    generalize dicG idD H = HD at *
    generalize es.map ddD = DDs at *
    simp [m_plan_fault, DL.run, e_plan_fault, e2, e3, e4, e5, e6, e7, nn]
  | none =>
    rw [hk] at e5
    have e5 : m_key_fault [roomD R, .lst (es.map ddD), dicG idD H] = .ret .non none := e5
    have hkey : keyF R es H = none := by
      unfold kfF at hk
      split at hk
      · cases hk
      · rename_i h
        exact h
    obtain ⟨l1, l2⟩ := vLoop_fs (g := tgTup 2 (tgCons (tName 6) (tgCons (tName 7) (tgNil)))) (tb := lb_plan_fault_3) (fun k : Nat => D.tup [.int ((0 + k : Nat) : Int), ddD (es.getD k (false, 0))]) [.va (roomD R), .no, .va (.int tot), .va (dicG idD H), .no, .va (szsD es), .no, .no, .no, .no] (dF R es H) (List.range es.length) fun i hi => by
      have hi := List.mem_range.mp hi
      unfold dF
      rw [getD_at hi, Nat.zero_add]
      refine ⟨[.va (roomD R), .no, .va (.int tot), .va (dicG idD H), .no, .va (szsD es), .va (.int i), .va (ddD es[i]), .no, .no], by simp, ?_⟩
      have q2 := p_standings1 R hR.ok (szD 0 (es.take i)) (sz_le (Nat.zero_le _) (fits_pre i hf))
      have q3 : itemsOf (lstT (tuplesOf (List.range R.L) (szD 0 (es.take i)))) = some ((rowsAt R es i).map tupN) := rfl
      have q1 := szs_at es i (by omega)
      obtain ⟨b1, b2⟩ := vLoop_fs (g := tName 8) (tb := lb_plan_fault_2) tupN [.va (roomD R), .no, .va (.int tot), .va (dicG idD H), .no, .va (szsD es), .va (.int i), .va (ddD es[i]), .no, .no] (fun row => (aft R row es[i]).findSome? (afF R H i es[i] row)) (rowsAt R es i) fun row hrow => by
        obtain ⟨g1, g2⟩ := rowsAt_std hf hrow
        have hfit : fit1 R.M row.length es[i] := by rw [g2]; exact fits_at hf i hi
        have r1 := p_after_all R hR.ok row g1 es[i] hfit
        have r2 := items_lstT2 (aft R row es[i])
        obtain ⟨c1, c2⟩ := vLoop_fs (g := tName 9) (tb := lb_plan_fault_1) tupN [.va (roomD R), .no, .va (.int tot), .va (dicG idD H), .no, .va (szsD es), .va (.int i), .va (ddD es[i]), .va (tupN row), .no] (afF R H i es[i] row) (aft R row es[i]) fun fo hfo => by
          have p1 := p_pay R hR.ok row g1 es[i] hfit fo hfo
          have p2 := dicG_ix idD H (i, row)
          rw [key_at hkey (by omega) hrow] at p2
          have p2 : orIx none (dicG idD H) (kpD (i, row)) = some (.int (hv H (i, row))) := p2
          have p3 := dicG_ix idD H (i + 1, fo)
          rw [key_at hkey (show i + 1 ≤ es.length by omega) (aft_rowsAt hf hi hrow hfo)] at p3
          have p3 : orIx none (dicG idD H) (kpD (i + 1, fo)) = some (.int (hv H (i + 1, fo))) := p3
          have p20 := dicG_ix0 idD H (kpD (i, row))
          have p30 := dicG_ix0 idD H (kpD (i + 1, fo))
          have k1 : D.tup [.int ((i : Int) + 1), tupN fo] = kpD (i + 1, fo) := rfl
          have k2 : D.tup [.int (i : Nat), tupN row] = kpD (i, row) := rfl
          unfold afF
          generalize dicG idD H = HD at *
          generalize kpD (i + 1, fo) = T1 at *
          generalize kpD (i, row) = T2 at *
          refine ⟨[.va (roomD R), .no, .va (.int tot), .va HD, .no, .va (szsD es), .va (.int i), .va (ddD es[i]), .va (tupN row), .va (tupN fo)], by simp, fun h => ?_, fun z hz => ?_⟩
          · have h : ¬ ((pay R row es[i] fo : Nat) : Int) + hv H (i + 1, fo) < hv H (i, row) := fun c => by rw [if_pos c] at h; cases h
            simp [lb_plan_fault_1, p1, p2, p3, p20, p30, k1, k2, h]
          · have h : ((pay R row es[i] fo : Nat) : Int) + hv H (i + 1, fo) < hv H (i, row) := Classical.byContradiction fun c => by rw [if_neg c] at hz; cases hz
            rw [if_pos h] at hz
            cases hz
            exact ⟨_, by simp [lb_plan_fault_1, p1, p2, p3, p20, p30, k1, k2, h]; rfl⟩
        refine ⟨[.va (roomD R), .no, .va (.int tot), .va (dicG idD H), .no, .va (szsD es), .va (.int i), .va (ddD es[i]), .va (tupN row), .no], by simp, ?_⟩
        generalize lstT (aft R row es[i]) = S at *
        generalize (aft R row es[i]).map tupN = SS at *
        generalize dicG idD H = T at *
        refine ⟨fun h => ?_, fun z hz => ?_⟩
        · have c1 := c1 h
          by_cases c : es[i].1 = true
          · rw [if_pos c] at r1
            simp [lb_plan_fault_2, r1, r2, c1]
          · rw [if_neg c] at r1
            simp [lb_plan_fault_2, r1, r2, c1]
        · obtain ⟨de2, c2⟩ := c2 z hz
          by_cases c : es[i].1 = true
          · rw [if_pos c] at r1
            exact ⟨_, by simp [lb_plan_fault_2, r1, r2, c2]; rfl⟩
          · rw [if_neg c] at r1
            exact ⟨_, by simp [lb_plan_fault_2, r1, r2, c2]; rfl⟩
      generalize lstT (tuplesOf (List.range R.L) (szD 0 (es.take i))) = S at *
      generalize (rowsAt R es i).map tupN = SS at *
      generalize szD 0 (es.take i) = z at *
      generalize szsD es = SZ at *
      generalize dicG idD H = T at *
      refine ⟨fun h => ?_, fun z hz => ?_⟩
      · have b1 := b1 h
        simp [lb_plan_fault_3, q1, q2, q3, b1]
      · obtain ⟨de2, b2⟩ := b2 z hz
        exact ⟨_, by simp [lb_plan_fault_3, q1, q2, q3, b2]; rfl⟩
    rw [← enum_map ddD (false, 0)] at l1 l2
    have q := dicG_ix idD H (0, [])
    rw [key_at hkey (Nat.zero_le _) (row0 (R := R) es)] at q
    have q : orIx none (dicG idD H) (kpD (0, [])) = some (.int (hv H (0, []))) := q
    have q0 := dicG_ix0 idD H (kpD (0, []))
    have k0 := kp00
    dsimp only
    cases hd : (List.range es.length).findSome? (dF R es H) with
    | some z =>
      obtain ⟨de2, l2⟩ := l2 z hd
      clear l1 ho nn
      show _ = Fo.ret z none
      generalize szsD es = SZ at *
      generalize dicG idD H = T at *
      generalize es.map ddD = DDs at *
      simp [m_plan_fault, DL.run, e_plan_fault, e1, e2, e3, e4, e5, e6, e7, l2]
    | none =>
      have l1 := l1 hd
      clear l2 ho nn
      show _ = Fo.ret (optF (stF H tot)) none
      unfold stF
      generalize szsD es = SZ at *
      generalize dicG idD H = T at *
      generalize es.map ddD = DDs at *
      generalize kpD (0, []) = T0 at *
      by_cases c : hv H (0, []) < tot
      · rw [if_pos c]
        simp [m_plan_fault, DL.run, e_plan_fault, e1, e2, e3, e4, e5, e6, e7, l1, k0, q, q0, c, optF]
      · rw [if_neg c]
        simp [m_plan_fault, DL.run, e_plan_fault, e1, e2, e3, e4, e5, e6, e7, l1, k0, q, q0, c, optF]
end K
end Lw
set_option maxRecDepth 100000
set_option maxHeartbeats 4000000
set_option exponentiation.threshold 300
set_option autoImplicit false
namespace Lw
open DL L2
/-! ### the law's sizes, keys and due fault -/
namespace K
theorem ls_loop {M : Nat} : ∀ (es : List Dd) (n : Nat) (pre : List Nat), FitDs M n es → pre.length + es.length < 1000 →
    vLoop (tName 2) lb__law_sizes_1 (es.map ddD) [.no, .ow (.lst ((pre ++ [n]).map natD)), .no] = .nx [.no, .ow (.lst ((pre ++ szL n es).map natD)), .no]
  | [], n, pre, _, _ => rfl
  | e :: es, n, pre, hf, hl => by
    rw [List.length_cons] at hl
    have ih := ls_loop es (nsz n e) (pre ++ [n]) hf.2 (by simp; omega)
    have el : atI ((pre ++ [n]).map natD) (-1) = some (.int n) := by rw [List.map_append]; exact atI_last2 _ _
    have ll : ((pre ++ [n]).map natD).length < 16777216 := by simp; omega
    have w1 := way_in e.1
    have d0 := dd_0 e
    have eb : lb__law_sizes_1 [.no, .ow (.lst ((pre ++ [n]).map natD)), .va (ddD e)] = .nx [.no, .ow (.lst ((pre ++ [n] ++ [nsz n e]).map natD)), .no] := by
      rw [List.map_append (l₂ := [nsz n e])]
      have hfit := hf.1
      unfold fit1 at hfit
      unfold nsz
      generalize (pre ++ [n]).map natD = P at *
      generalize ddD e = dd at *
      generalize wayS e.1 = ws at *
      cases hw : e.1 with
      | true =>
        rw [hw] at w1
        simp [lb__law_sizes_1, el, d0, w1, ll, natD]
      | false =>
        rw [hw] at w1 hfit
        have h5 : ((n - 1 : Nat) : Int) = (n : Int) - 1 := by
          have : e.2 < n := by simpa using hfit
          omega
        simp [lb__law_sizes_1, el, d0, w1, ll, natD, h5]
    rw [List.map_cons, vLoop_nx (de1 := [.no, .ow (.lst ((pre ++ [n]).map natD)), .va (ddD e)]) (by simp) eb, ih, szL, List.append_assoc]
    rfl
theorem h_sizesL (M : Nat) (es : List Dd) (h : FitDs M 0 es) (hl : es.length ≤ 300) : m__law_sizes [dsD es] = .retF (szsD es) none := by
  have e1 := ls_loop es 0 [] h (by simp; omega)
  have ei := items_dsD es
  have e0 : D.lst [.int 0] = .lst (([] ++ [0]).map natD) := rfl
  have e2 : D.lst (([] ++ szL 0 es).map natD) = szsD es := rfl
  rw [e2] at e1
  generalize D.lst (([] ++ [0]).map natD) = T0 at *
  generalize szsD es = SZ at *
  generalize dsD es = DS at *
  simp [m__law_sizes, DL.run, e__law_sizes, ei, e0, e1]
def keysE (R : Rm) (es : List Dd) : List KpH := (List.range (es.length + 1)).flatMap fun i => (rowsAt R es i).map fun r => (i, r)
theorem keysE_mem {R : Rm} {es : List Dd} {k : KpH} (h : k ∈ keysE R es) : k.1 ≤ es.length ∧ k.2 ∈ rowsAt R es k.1 := by
  obtain ⟨i, hi, h2⟩ := List.mem_flatMap.mp h
  obtain ⟨r, hr, rfl⟩ := List.mem_map.mp h2
  have := List.mem_range.mp hi
  exact ⟨by show i ≤ _; omega, hr⟩
theorem fs_flat {α β γ : Type} (f : α → List β) (g : β → Option γ) : ∀ l : List α, (l.flatMap f).findSome? g = l.findSome? fun a => (f a).findSome? g
  | [] => rfl
  | a :: l => by
    rw [List.flatMap_cons, List.findSome?_append, List.findSome?_cons, fs_flat f g l]
    cases (f a).findSome? g <;> rfl
theorem keyF_keys (R : Rm) (es : List Dd) (H : List (KpH × D)) : (keysE R es).findSome? (lackK H) = keyF R es H := by
  unfold keysE keyF
  rw [fs_flat]
  congr 1
  funext i
  rw [List.findSome?_map]
  rfl
theorem keysE_len {R : Rm} (hR : R.Ok4) {es : List Dd} (hf : FitDs R.M 0 es) (hl : es.length ≤ 8) : (keysE R es).length ≤ 9 * 2744 := by
  have key : ∀ l : List Nat, (l.flatMap fun i => (rowsAt R es i).map fun r => (i, r)).length ≤ l.length * 2744 := fun l => by
    induction l with
    | nil => exact Nat.zero_le _
    | cons a l ih =>
      rw [List.flatMap_cons, List.length_append, List.length_map, List.length_cons]
      have := rowsAt_le hR hf a
      omega
  have := key (List.range (es.length + 1))
  rw [List.length_range] at this
  have h2 : (es.length + 1) * 2744 ≤ 9 * 2744 := Nat.mul_le_mul_right _ (by omega)
  exact Nat.le_trans this h2
theorem sz_8 {R : Rm} (hR : R.Ok4) {es : List Dd} (hf : FitDs R.M 0 es) (k : Nat) : szD 0 (es.take k) ≤ 8 := by
  have := sz_le (Nat.zero_le _) (fits_pre k hf)
  have := hR.m4
  omega
theorem kL_1 (v0 v1 : Sl) (k : Nat) : ∀ (l : List (List Nat)) (acc : List KpH), acc.length + l.length ≤ 16000000 →
    vLoop (tName 4) lb__law_keys_1 (l.map tupN) [v0, v1, .ow (.lst (acc.map kpD)), .va (.int k), .no] = .nx [v0, v1, .ow (.lst ((acc ++ l.map fun r => (k, r)).map kpD)), .va (.int k), .no]
  | [], acc, _ => by rw [List.map_nil, List.map_nil, List.append_nil]; rfl
  | r :: l, acc, hl => by
    rw [List.length_cons] at hl
    have k0 : D.tup [.int (k : Nat), tupN r] = kpD (k, r) := rfl
    have ll : (acc.map kpD).length < 16777216 := by rw [List.length_map]; omega
    have st : lb__law_keys_1 [v0, v1, .ow (.lst (acc.map kpD)), .va (.int k), .va (tupN r)] = .nx [v0, v1, .ow (.lst ((acc ++ [(k, r)]).map kpD)), .va (.int k), .no] := by
      rw [List.map_append (l₂ := [(k, r)])]
      show _ = Ot.nx [v0, v1, .ow (.lst (acc.map kpD ++ [kpD (k, r)])), .va (.int k), .no]
      generalize acc.map kpD = A at *
      generalize kpD (k, r) = T at *
      simp [lb__law_keys_1, k0, ll]
    have ih := kL_1 v0 v1 k l (acc ++ [(k, r)]) (by rw [List.length_append, List.length_singleton]; omega)
    rw [List.append_assoc] at ih
    rw [List.map_cons]
    exact (vLoop_nx (by simp) st).trans ih
theorem h_keysL (R : Rm) (hR : R.Ok4) (es : List Dd) (hf : FitDs R.M 0 es) (hl : es.length ≤ 8) : m__law_keys [valsD R, szsD es] = .retF (.lst ((keysE R es).map kpD)) none := by
  have h8 := hR.ok.l8
  obtain ⟨de, e, rfl⟩ := vLoop_range (g := tName 3) (tb := lb__law_keys_2) (fun k de => de = [.va (valsD R), .va (szsD es), .ow (.lst (((List.range k).flatMap fun i => (rowsAt R es i).map fun r => (i, r)).map kpD)), .no, .no]) (es.length + 1) [.va (valsD R), .va (szsD es), .ow (.lst []), .no, .no] rfl fun k hk de hde => by
    subst hde
    have q1 := szs_at es k (by omega)
    have e1 := h_rows R.L (szD 0 (es.take k)) (by omega) (sz_8 hR hf k)
    have e3 : itemsOf (lstT (tuplesOf (List.range R.L) (szD 0 (es.take k)))) = some ((rowsAt R es k).map tupN) := rfl
    have hlen : ((List.range k).flatMap fun i => (rowsAt R es i).map fun r => (i, r)).length ≤ 9 * 2744 := by
      have key : ∀ l : List Nat, (l.flatMap fun i => (rowsAt R es i).map fun r => (i, r)).length ≤ l.length * 2744 := fun l => by
        induction l with
        | nil => exact Nat.zero_le _
        | cons a l ih =>
          rw [List.flatMap_cons, List.length_append, List.length_map, List.length_cons]
          have := rowsAt_le hR hf a
          omega
      have := key (List.range k)
      rw [List.length_range] at this
      have h2 : k * 2744 ≤ 9 * 2744 := Nat.mul_le_mul_right _ (by omega)
      exact Nat.le_trans this h2
    have hr := rowsAt_le hR hf k
    have lp := kL_1 (.va (valsD R)) (.va (szsD es)) k (rowsAt R es k) ((List.range k).flatMap fun i => (rowsAt R es i).map fun r => (i, r)) (by omega)
    have er : ((List.range k).flatMap fun i => (rowsAt R es i).map fun r => (i, r)) ++ (rowsAt R es k).map (fun r => (k, r)) = (List.range (k + 1)).flatMap fun i => (rowsAt R es i).map fun r => (i, r) := by
      rw [List.range_succ, List.flatMap_append]
      simp
    rw [er] at lp
    have v0 := vals_L R
    have ll : ((rowsAt R es k).map tupN).length ≤ 16777216 := by rw [List.length_map]; omega
    refine ⟨[.va (valsD R), .va (szsD es), .ow (.lst (((List.range k).flatMap fun i => (rowsAt R es i).map fun r => (i, r)).map kpD)), .va (.int k), .no], _, rfl, .inl ?_, rfl⟩
    generalize (((List.range k).flatMap fun i => (rowsAt R es i).map fun r => (i, r)).map kpD) = A at *
    generalize (((List.range (k + 1)).flatMap fun i => (rowsAt R es i).map fun r => (i, r)).map kpD) = B at *
    generalize lstT (tuplesOf (List.range R.L) (szD 0 (es.take k))) = S at *
    generalize (rowsAt R es k).map tupN = SS at *
    generalize szD 0 (es.take k) = z at *
    generalize szsD es = SZ at *
    generalize valsD R = vR at *
    simp [lb__law_keys_2, v0, q1, e1, e3, ll, lp]
  have l0 : fLen [szsD es] = some (.int ((es.length + 1 : Nat) : Int)) := by unfold szsD; simp [szL_len]
  have er := rngA_n (es.length + 1) (by omega)
  have e9 : (List.range (es.length + 1)).flatMap (fun i => (rowsAt R es i).map fun r => (i, r)) = keysE R es := rfl
  rw [e9] at e
  generalize (keysE R es).map kpD = B at *
  generalize szsD es = SZ at *
  generalize valsD R = vR at *
  generalize es.length + 1 = n1 at *
  simp [m__law_keys, DL.run, e__law_keys, l0, er, e]
theorem kd_1 (v0 v1 v2 v3 : Sl) (H : List (KpH × D)) (ho : OkT H) (k : KpH) :
    (lackK H k = none → lb__law_due_1 [v0, v1, v2, v3, .va (dicG idD H), .va (kpD k), .no, .no, .no] = .nx [v0, v1, v2, v3, .va (dicG idD H), .no, .no, .no, .no]) ∧
    ∀ z, lackK H k = some z → ∃ de2, lb__law_due_1 [v0, v1, v2, v3, .va (dicG idD H), .va (kpD k), .no, .no, .no] = .ret z de2 := by
  have e1 := dicG_ix idD H k
  have e0 := dicG_ix0 idD H (kpD k)
  have e3 := dicG_in idD H k not
  have e30 := dicG_nin0 idD H (kpD k)
  have i0 : fIx (kpD k) (.int 0) = some (.int k.1) := rfl
  have i1 : fIx (kpD k) (.int 1) = some (tupN k.2) := rfl
  unfold lackK
  cases e : lkG H k with
  | none =>
    rw [e] at e1 e3
    have e3 : orIn not none (kpD k) (dicG idD H) = some (.bl true) := e3
    generalize dicG idD H = HD at *
    generalize kpD k = T at *
    refine ⟨fun h => by (cases h), fun z hz => ?_⟩
    cases hz
    exact ⟨_, by simp [lb__law_due_1, i0, i1, e3, e30]; rfl⟩
  | some d =>
    rw [e] at e1 e3
    have e3 : orIn not none (kpD k) (dicG idD H) = some (.bl false) := e3
    have e1 : orIx none (dicG idD H) (kpD k) = some d := e1
    have ei := h_whole d (ho _ _ e)
    generalize dicG idD H = HD at *
    generalize kpD k = T at *
    dsimp only
    cases hn : isI d with
    | true =>
      rw [hn] at ei
      rw [if_pos rfl]
      refine ⟨fun _ => ?_, fun z hz => by (cases hz)⟩
      simp [lb__law_due_1, i0, i1, e1, e0, e3, e30, ei]
    | false =>
      rw [hn] at ei
      rw [if_neg (by decide)]
      refine ⟨fun h => by (cases h), fun z hz => ?_⟩
      cases hz
      exact ⟨_, by simp [lb__law_due_1, i0, i1, e1, e0, e3, e30, ei]; rfl⟩
theorem h_dueK (R : Rm) (hR : R.Ok4) (es : List Dd) (hf : FitDs R.M 0 es) (hl : es.length ≤ 8) (H : List (KpH × D)) (ho : OkT H) (tot : Int) : m__law_due [valsD R, dsD es, szsD es, .int tot, dicG idD H] = .ret (optF (pfF R es H tot)) none := by
  have h8 := hR.ok.l8
  have v0 := vals_L R
  have ek := h_keysL R hR es hf hl
  have hkl := keysE_len hR hf hl
  have ei : itemsOf (D.lst ((keysE R es).map kpD)) = some ((keysE R es).map kpD) := rfl
  have lk : ((keysE R es).map kpD).length ≤ 16777216 := by rw [List.length_map]; omega
  obtain ⟨a1, a2⟩ := vLoop_fs (g := tName 5) (tb := lb__law_due_1) kpD [.va (valsD R), .va (dsD es), .va (szsD es), .va (.int tot), .va (dicG idD H), .no, .no, .no, .no] (lackK H) (keysE R es) fun k _ =>
    ⟨[.va (valsD R), .va (dsD es), .va (szsD es), .va (.int tot), .va (dicG idD H), .va (kpD k), .no, .no, .no], by simp, (kd_1 _ _ _ _ H ho k).1, (kd_1 _ _ _ _ H ho k).2⟩
  rw [keyF_keys] at a1 a2
  unfold pfF kfF
  cases hk : keyF R es H with
  | some z =>
    obtain ⟨de2, a2⟩ := a2 z hk
    clear a1 ho
    show _ = Fo.ret z none
    generalize D.lst ((keysE R es).map kpD) = KL at *
    generalize (keysE R es).map kpD = KS at *
    generalize dicG idD H = HD at *
    generalize dsD es = DS at *
    generalize szsD es = SZ at *
    generalize valsD R = vR at *
    simp [m__law_due, DL.run, e__law_due, ek, ei, lk, a2]
  | none =>
    have a1 := a1 hk
    clear a2
    have ix : ∀ (i : Nat) (row : List Nat), i ≤ es.length → row ∈ rowsAt R es i → orIx none (dicG idD H) (kpD (i, row)) = some (.int (hv H (i, row))) := fun i row hi hr => by
      have q := dicG_ix idD H (i, row)
      rw [key_at hk hi hr] at q
      exact q
    have ix0 := fun k => dicG_ix0 idD H (kpD k)
    have ln : fLen [dsD es] = some (.int es.length) := by simp [dsD]
    obtain ⟨c1, c2⟩ := vLoop_fs (g := tName 6) (tb := lb__law_due_2) tupN [.va (valsD R), .va (dsD es), .va (szsD es), .va (.int tot), .va (dicG idD H), .no, .no, .no, .no] (fun row => if 0 < hv H (es.length, row) then some (D.tup [.str "end", tupN row]) else none) (rowsAt R es es.length) fun row hrow => by
      have e1 := ix es.length row (Nat.le_refl _) hrow
      have e0 := ix0 (es.length, row)
      have k0 : D.tup [.int (es.length : Nat), tupN row] = kpD (es.length, row) := rfl
      clear ix ix0
      generalize dsD es = DS at *
      generalize szsD es = SZ at *
      generalize valsD R = vR at *
      generalize dicG idD H = HD at *
      generalize kpD (es.length, row) = T at *
      refine ⟨[.va vR, .va DS, .va SZ, .va (.int tot), .va HD, .no, .va (tupN row), .no, .no], by simp, fun h => ?_, fun z hz => ?_⟩
      · have h : ¬ 0 < hv H (es.length, row) := fun c => by rw [if_pos c] at h; cases h
        generalize hv H (es.length, row) = x at *
        simp [lb__law_due_2, ln, k0, e1, e0, h]
      · have h : 0 < hv H (es.length, row) := Classical.byContradiction fun c => by rw [if_neg c] at hz; cases hz
        rw [if_pos h] at hz
        cases hz
        generalize hv H (es.length, row) = x at *
        exact ⟨_, by simp [lb__law_due_2, ln, k0, e1, e0, h]; rfl⟩
    have e2 := h_rows R.L (szD 0 es) (by omega) (by have := sz_8 hR hf es.length; rwa [List.take_length] at this)
    have e3 : itemsOf (lstT (tuplesOf (List.range R.L) (szD 0 es))) = some ((rowsAt R es es.length).map tupN) := by rw [rowsAt_end]; rfl
    have e4 := szs_last es
    have lr : ((rowsAt R es es.length).map tupN).length ≤ 16777216 := by have := rowsAt_le hR hf es.length; rw [List.length_map]; omega
    show _ = Fo.ret (optF (match endF R es H with
      | some z => some z
      | none => match (List.range es.length).findSome? (dF R es H) with
        | some z => some z
        | none => stF H tot)) none
    cases he : endF R es H with
    | some z =>
      obtain ⟨de2, c2⟩ := c2 z he
      clear c1 ho ix ix0
      show _ = Fo.ret z none
      generalize lstT (tuplesOf (List.range R.L) (szD 0 es)) = S at *
      generalize (rowsAt R es es.length).map tupN = SS at *
      generalize szD 0 es = zz at *
      generalize D.lst ((keysE R es).map kpD) = KL at *
      generalize (keysE R es).map kpD = KS at *
      generalize dicG idD H = HD at *
      generalize dsD es = DS at *
      generalize szsD es = SZ at *
      generalize valsD R = vR at *
      simp [m__law_due, DL.run, e__law_due, ek, ei, lk, a1, v0, e4, e2, e3, lr, c2]
    | none =>
      have c1 := c1 he
      clear c2
      obtain ⟨l1, l2⟩ := vLoop_fs (g := tName 7) (tb := lb__law_due_5) natD [.va (valsD R), .va (dsD es), .va (szsD es), .va (.int tot), .va (dicG idD H), .no, .no, .no, .no] (dF R es H) (List.range es.length) fun i hi => by
        have hi := List.mem_range.mp hi
        unfold dF
        rw [getD_at hi]
        refine ⟨[.va (valsD R), .va (dsD es), .va (szsD es), .va (.int tot), .va (dicG idD H), .no, .no, .va (.int i), .no], rfl, ?_⟩
        have q2 := h_rows R.L (szD 0 (es.take i)) (by omega) (sz_8 hR hf i)
        have q3 : itemsOf (lstT (tuplesOf (List.range R.L) (szD 0 (es.take i)))) = some ((rowsAt R es i).map tupN) := rfl
        have q1 := szs_at es i (by omega)
        have q5 : ((rowsAt R es i).map tupN).length ≤ 16777216 := by have := rowsAt_le hR hf i; rw [List.length_map]; omega
        have da := ds_at es i hi
        obtain ⟨b1, b2⟩ := vLoop_fs (g := tName 6) (tb := lb__law_due_4) tupN [.va (valsD R), .va (dsD es), .va (szsD es), .va (.int tot), .va (dicG idD H), .no, .no, .va (.int i), .no] (fun row => (aft R row es[i]).findSome? (afF R H i es[i] row)) (rowsAt R es i) fun row hrow => by
          obtain ⟨g1, g2⟩ := rowsAt_std hf hrow
          have hfit : fit1 R.M row.length es[i] := by rw [g2]; exact fits_at hf i hi
          have r1 := h_afterG R hR.ok row g1 es[i] hfit
          have r2 := items_lstT2 (aft R row es[i])
          have r5 : ((aft R row es[i]).map tupN).length ≤ 16777216 := by
            have h1 : ∀ fo ∈ aft R row es[i], fo ∈ rowsAt R es (i + 1) := fun fo hfo => aft_rowsAt hf hi hrow hfo
            rw [List.length_map]
            unfold aft
            split
            · have := rowsAt_le hR hf (i + 1)
              have h2 : rowsAt R es (i + 1) = tuplesOf (List.range R.L) (row.length + 1) := by
                unfold rowsAt
                rw [sz_take i hi, g2]
                unfold nsz
                rename_i hb
                rw [if_pos hb]
              rw [h2] at this
              omega
            · simp
          obtain ⟨d1, d2⟩ := vLoop_fs (g := tName 8) (tb := lb__law_due_3) tupN [.va (valsD R), .va (dsD es), .va (szsD es), .va (.int tot), .va (dicG idD H), .no, .va (tupN row), .va (.int i), .no] (afF R H i es[i] row) (aft R row es[i]) fun fo hfo => by
            have p1 := h_payG R hR.ok row g1 es[i] hfit fo hfo
            have p2 := ix i row (by omega) hrow
            have p3 := ix (i + 1) fo (by omega) (aft_rowsAt hf hi hrow hfo)
            have p20 := ix0 (i, row)
            have p30 := ix0 (i + 1, fo)
            have k1 : D.tup [.int ((i : Int) + 1), tupN fo] = kpD (i + 1, fo) := rfl
            have k2 : D.tup [.int (i : Nat), tupN row] = kpD (i, row) := rfl
            unfold afF
            clear ix ix0
            generalize dicG idD H = HD at *
            generalize kpD (i + 1, fo) = T1 at *
            generalize kpD (i, row) = T2 at *
            generalize ddD es[i] = E at *
            generalize valsD R = vR at *
            generalize szsD es = SZ at *
            generalize dsD es = DS at *
            refine ⟨[.va vR, .va DS, .va SZ, .va (.int tot), .va HD, .no, .va (tupN row), .va (.int i), .va (tupN fo)], by simp, fun h => ?_, fun z hz => ?_⟩
            · have h : ¬ ((pay R row es[i] fo : Nat) : Int) + hv H (i + 1, fo) < hv H (i, row) := fun c => by rw [if_pos c] at h; cases h
              simp [lb__law_due_3, da, p1, p2, p3, p20, p30, k1, k2, h]
            · have h : ((pay R row es[i] fo : Nat) : Int) + hv H (i + 1, fo) < hv H (i, row) := Classical.byContradiction fun c => by rw [if_neg c] at hz; cases hz
              rw [if_pos h] at hz
              cases hz
              exact ⟨_, by simp [lb__law_due_3, da, p1, p2, p3, p20, p30, k1, k2, h]; rfl⟩
          refine ⟨[.va (valsD R), .va (dsD es), .va (szsD es), .va (.int tot), .va (dicG idD H), .no, .va (tupN row), .va (.int i), .no], by simp, ?_⟩
          clear ix ix0
          generalize lstT (aft R row es[i]) = S at *
          generalize (aft R row es[i]).map tupN = SS at *
          generalize dicG idD H = T at *
          generalize ddD es[i] = E at *
          generalize valsD R = vR at *
          generalize szsD es = SZ at *
          generalize dsD es = DS at *
          refine ⟨fun h => ?_, fun z hz => ?_⟩
          · have d1 := d1 h
            by_cases c : es[i].1 = true
            · rw [if_pos c] at r1
              simp [lb__law_due_4, da, r1, r2, r5, d1]
            · rw [if_neg c] at r1
              simp [lb__law_due_4, da, r1, r2, r5, d1]
          · obtain ⟨de2, d2⟩ := d2 z hz
            by_cases c : es[i].1 = true
            · rw [if_pos c] at r1
              exact ⟨_, by simp [lb__law_due_4, da, r1, r2, r5, d2]; rfl⟩
            · rw [if_neg c] at r1
              exact ⟨_, by simp [lb__law_due_4, da, r1, r2, r5, d2]; rfl⟩
        clear ix ix0
        generalize lstT (tuplesOf (List.range R.L) (szD 0 (es.take i))) = S at *
        generalize (rowsAt R es i).map tupN = SS at *
        generalize szD 0 (es.take i) = z at *
        generalize szsD es = SZ at *
        generalize dicG idD H = T at *
        generalize dsD es = DS at *
        generalize valsD R = vR at *
        refine ⟨fun h => ?_, fun z hz => ?_⟩
        · have b1 := b1 h
          simp [lb__law_due_5, v0, q1, q2, q3, q5, b1]
        · obtain ⟨de2, b2⟩ := b2 z hz
          exact ⟨_, by simp [lb__law_due_5, v0, q1, q2, q3, q5, b2]; rfl⟩
      rw [← rangeD0] at l1 l2
      have er := rngA_n es.length (by omega)
      have q := ix 0 [] (Nat.zero_le _) (row0 (R := R) es)
      have q0 := ix0 (0, [])
      have k0 := kp00
      dsimp only
      clear ix ix0
      cases hd : (List.range es.length).findSome? (dF R es H) with
      | some z =>
        obtain ⟨de2, l2⟩ := l2 z hd
        clear l1 ho
        show _ = Fo.ret z none
        generalize lstT (tuplesOf (List.range R.L) (szD 0 es)) = S at *
        generalize (rowsAt R es es.length).map tupN = SS at *
        generalize szD 0 es = zz at *
        generalize D.lst ((keysE R es).map kpD) = KL at *
        generalize (keysE R es).map kpD = KS at *
        generalize dicG idD H = HD at *
        generalize dsD es = DS at *
        generalize szsD es = SZ at *
        generalize valsD R = vR at *
        simp [m__law_due, DL.run, e__law_due, ek, ei, lk, a1, v0, e4, e2, e3, lr, c1, ln, er, l2]
      | none =>
        have l1 := l1 hd
        clear l2 ho
        show _ = Fo.ret (optF (stF H tot)) none
        unfold stF
        generalize lstT (tuplesOf (List.range R.L) (szD 0 es)) = S at *
        generalize (rowsAt R es es.length).map tupN = SS at *
        generalize szD 0 es = zz at *
        generalize D.lst ((keysE R es).map kpD) = KL at *
        generalize (keysE R es).map kpD = KS at *
        generalize dicG idD H = HD at *
        generalize dsD es = DS at *
        generalize szsD es = SZ at *
        generalize valsD R = vR at *
        generalize kpD (0, []) = T0 at *
        by_cases c : hv H (0, []) < tot
        · rw [if_pos c]
          simp [m__law_due, DL.run, e__law_due, ek, ei, lk, a1, v0, e4, e2, e3, lr, c1, ln, er, l1, k0, q, q0, c, optF]
        · rw [if_neg c]
          simp [m__law_due, DL.run, e__law_due, ek, ei, lk, a1, v0, e4, e2, e3, lr, c1, ln, er, l1, k0, q, q0, c, optF]
end K
end Lw
set_option maxRecDepth 100000
set_option maxHeartbeats 4000000
set_option exponentiation.threshold 300
set_option autoImplicit false
namespace Lw
open DL L2
/-! ### tables spoilt; a table without a fault bounds the total -/
namespace K
def FltK (o : Option D) : Prop := ∀ z, o = some z → Shp 2 z ∧ ∃ xs, z = .tup xs
theorem shp_l3 (w : PySem.Str) (hw : PySem.PyData.strOk w = true) (ds : List D) (h : ∀ d ∈ ds, Shp 1 d) : Shp 2 (.tup (.str w :: ds)) := shp_tup (n := 1) fun d hd => by
  rcases List.mem_cons.mp hd with rfl | hd
  · exact (shp_str _ hw).up (by decide)
  · exact h d hd
theorem pf_flt (R : Rm) (es : List Dd) (H : List (KpH × D)) (tot : Int) : FltK (pfF R es H tot) := fun z h => by
  have mi : ∀ i : Int, Shp 1 (.int i) := fun i => (shp_int i).up (by decide)
  unfold pfF at h
  split at h
  · rename_i y hy
    cases h
    unfold kfF at hy
    split at hy
    · rename_i hk
      cases hy
      obtain ⟨i, _, h1⟩ := List.exists_of_findSome?_eq_some hk
      obtain ⟨row, _, h2⟩ := List.exists_of_findSome?_eq_some h1
      have key : ∀ z, some (D.tup [.str "lacks", .int i, tupN row]) = some z → Shp 2 z ∧ ∃ xs, z = .tup xs := fun z e => by
        cases e
        refine ⟨shp_l3 _ (by decide +kernel) _ fun d hd => ?_, _, rfl⟩
        simp only [List.mem_cons, List.not_mem_nil, or_false] at hd
        rcases hd with rfl | rfl
        · exact mi _
        · exact shp_tupN row
      unfold lackK at h2
      split at h2
      · split at h2
        · cases h2
        · exact key _ h2
      · exact key _ h2
    · obtain ⟨row, _, h2⟩ := List.exists_of_findSome?_eq_some hy
      split at h2
      · cases h2
        refine ⟨shp_l3 _ (by decide +kernel) _ fun d hd => ?_, _, rfl⟩
        simp only [List.mem_cons, List.not_mem_nil, or_false] at hd
        subst hd
        exact shp_tupN row
      · cases h2
  · split at h
    · rename_i y hy
      cases h
      obtain ⟨i, _, h1⟩ := List.exists_of_findSome?_eq_some hy
      unfold dF at h1
      obtain ⟨row, _, h2⟩ := List.exists_of_findSome?_eq_some h1
      obtain ⟨fo, _, h3⟩ := List.exists_of_findSome?_eq_some h2
      unfold afF at h3
      split at h3
      · cases h3
        refine ⟨shp_l3 _ (by decide +kernel) _ fun d hd => ?_, _, rfl⟩
        simp only [List.mem_cons, List.not_mem_nil, or_false] at hd
        rcases hd with rfl | rfl | rfl
        · exact mi _
        · exact shp_tupN row
        · exact shp_tupN fo
      · cases h3
    · unfold stF at h
      split at h
      · cases h
        exact ⟨shp_l3 _ (by decide +kernel) _ fun d hd => (nomatch hd), _, rfl⟩
      · cases h
theorem h_sameK {o : Option D} (h : FltK o) : m__law_same [optF o, optF o] = .ret (.bl true) none := by
  cases o with
  | none => simp [m__law_same, DL.run, e__law_same, optF]
  | some z =>
    obtain ⟨h1, xs, rfl⟩ := h z rfl
    have e := fEq_self _ (h1.ok (by decide))
    have e0 : optF (some (D.tup xs)) = .tup xs := rfl
    have ty : tyOf (D.tup xs) = some (.b "tuple") := rfl
    have nn : DL.isNon (D.tup xs) = false := rfl
    rw [e0]
    generalize D.tup xs = Z at *
    simp [m__law_same, DL.run, e__law_same, e, ty, nn]
theorem dual {R : Rm} (hR : R.Ok) {es : List Dd} (hf : FitDs R.M 0 es) {H : List (KpH × D)} {tot : Int} (h : pfF R es H tot = none) : tot ≤ bc R es [] := by
  unfold pfF at h
  split at h
  · cases h
  · rename_i hk
    split at h
    · cases h
    · rename_i hd
      have hend : endF R es H = none := by
        unfold kfF at hk
        split at hk
        · cases hk
        · exact hk
      have hs : ¬ hv H (0, []) < tot := fun c => by
        unfold stF at h
        rw [if_pos c] at h
        cases h
      have key : ∀ (m i : Nat), i + m = es.length → ∀ row ∈ rowsAt R es i, hv H (i, row) ≤ bc R (es.drop i) row := by
        intro m
        induction m with
        | zero =>
          intro i hi row hr
          have hi : i = es.length := by omega
          subst hi
          have h1 := List.findSome?_eq_none_iff.mp hend row hr
          have h2 : ¬ 0 < hv H (es.length, row) := fun c => by rw [if_pos c] at h1; cases h1
          rw [List.drop_length]
          show _ ≤ (0 : Int)
          omega
        | succ m ih =>
          intro i hi row hr
          have hlt : i < es.length := by omega
          obtain ⟨g1, g2⟩ := rowsAt_std hf hr
          have hfit : fit1 R.M row.length es[i] := by rw [g2]; exact fits_at hf i hlt
          obtain ⟨fo, hfo, e⟩ := bc_at hR hfit (es.drop (i + 1))
          rw [drop_at hlt, ← e]
          have h1 := ih (i + 1) (by omega) fo (aft_rowsAt hf hlt hr hfo)
          have h2 := List.findSome?_eq_none_iff.mp hd i (List.mem_range.mpr hlt)
          unfold dF at h2
          rw [getD_at hlt] at h2
          have h3 := List.findSome?_eq_none_iff.mp (List.findSome?_eq_none_iff.mp h2 row hr) fo hfo
          unfold afF at h3
          have h4 : ¬ ((pay R row es[i] fo : Nat) : Int) + hv H (i + 1, fo) < hv H (i, row) := fun c => by rw [if_pos c] at h3; cases h3
          omega
      have := key es.length 0 (by omega) [] (row0 es)
      rw [List.drop_zero] at this
      omega
theorem odd6K (r : Nat) (h : r < 6) : ∃ o, fIx (D.lst [.non, .bl true, .str ("1" : PySem.Str), .tup [.int 0], .lst [.int 0], .bl false]) (.int r) = some o ∧ Pl o = true := by
  match r, h with
  | 0, _ => exact ⟨_, rfl, rfl⟩
  | 1, _ => exact ⟨_, rfl, rfl⟩
  | 2, _ => exact ⟨_, rfl, rfl⟩
  | 3, _ => exact ⟨_, rfl, rfl⟩
  | 4, _ => exact ⟨_, rfl, rfl⟩
  | 5, _ => exact ⟨_, rfl, rfl⟩
theorem spk_b {n : Nat} (ks : List KpH) (hl : ks.length ≤ 100000) (HD : D) (hH : ∀ k ∈ ks, ∃ x : Int, orIx none HD (kpD k) = some (.int x)) (hH0 : ∀ d, fIx HD d = none) (F : List (KpH × D)) (hF : FI ks F) (s : DS) (ho : Ok (n + 1) s) (tb : Bool) (kind at' c1 c2 : Nat) (chg : Int) (j : Nat) (hj : j < ks.length) :
    ∃ (F' : List (KpH × D)) (s' : DS), lb__law_spoil_1 [.pn (stD s), .va (.lst (ks.map kpD)), .va HD, .ow (dicG idD F), .va (.bl tb), .va (.int kind), .va (.int at'), .va (.lst ([c1, c2].map natD)), .va (.int chg), .va (.int j), .no, .no] = .nx [.pn (stD s'), .va (.lst (ks.map kpD)), .va HD, .ow (dicG idD F'), .va (.bl tb), .va (.int kind), .va (.int at'), .va (.lst ([c1, c2].map natD)), .va (.int chg), .no, .no, .no] ∧ FI ks F' ∧ Ok n s' := by
  obtain ⟨k, hk, hkt, hkf⟩ : ∃ k, k < ks.length ∧ (tb = true → (ks.length : Int) - 1 - j = (k : Int)) ∧ (tb = false → j = k) := by
    cases tb with
    | true => exact ⟨ks.length - 1 - j, by omega, fun _ => by omega, fun z => (by cases z)⟩
    | false => exact ⟨j, hj, fun z => (by cases z), fun _ => rfl⟩
  have hm := List.getElem_mem hk
  have i1 : fIx (.lst (ks.map kpD)) (.int k) = some (kpD ks[k]) := by simp [atI_n, hk]
  have l1 : fLen [D.lst (ks.map kpD)] = some (.int ks.length) := by simp
  obtain ⟨ky, hky⟩ : ∃ ky, ky = ks[k] := ⟨_, rfl⟩
  rw [← hky] at hm i1
  obtain ⟨x, e1⟩ := hH ky hm
  have e10 := hH0 (kpD ky)
  have hFl := hF.len
  have pt := fun (a : D) s de => dic0_put1 idD 3 a ky F s de (by omega)
  have pt : ∀ (a : D) (s : Sl) (de : DEnv), putNA 3 a (kpD ky) de (some (s, dicG idD F)) = .nx (de.set 3 (s.same (dicG idD (putG F ky a)))) := pt
  obtain ⟨r3, s3, d3, k3, o3⟩ := h_draw (n := n) s 6 ho (by decide) (by decide)
  obtain ⟨o, ho6, oko⟩ := odd6K r3 (by omega)
  have fin := f_in k [c1, c2]
  have f0 := hF.put (d := .int x) hm rfl
  have f1 := hF.put (d := .int (x + chg)) hm rfl
  have f2 := hF.put hm oko
  have fF := hF
  have oN := ho.mono (show n ≤ n + 1 by omega)
  clear hH hF hH0
  generalize decide (k ∈ [c1, c2]) = b at *
  generalize D.lst ([c1, c2].map natD) = CH at *
  generalize hN : (ks.length : Int) = N at *
  generalize D.lst (ks.map kpD) = KL at *
  generalize hFD : dicG idD F = FD at *
  generalize kpD ky = T at *
  by_cases ca : k = at'
  · subst ca
    by_cases q1 : kind = 1
    · subst q1
      cases b
      · refine ⟨putG F ky o, s3, ?_, f2, o3⟩
        cases tb with
        | true => have hk1 := hkt rfl; simp [lb__law_spoil_1, l1, i1, e1, e10, fin, pt, hk1, d3, ho6]
        | false => have hk1 := hkf rfl; subst hk1; simp [lb__law_spoil_1, l1, i1, e1, e10, fin, pt, d3, ho6]
      · refine ⟨putG F ky o, s3, ?_, f2, o3⟩
        cases tb with
        | true => have hk1 := hkt rfl; simp [lb__law_spoil_1, l1, i1, e1, e10, fin, pt, hk1, d3, ho6]
        | false => have hk1 := hkf rfl; subst hk1; simp [lb__law_spoil_1, l1, i1, e1, e10, fin, pt, d3, ho6]
    · have q1' : ¬ (kind : Int) = 1 := by omega
      by_cases q2 : kind = 2
      · subst q2
        cases b
        · refine ⟨F, s, ?_, fF, oN⟩
          cases tb with
          | true => have hk1 := hkt rfl; simp [lb__law_spoil_1, l1, i1, e1, e10, fin, pt, hk1, hFD]
          | false => have hk1 := hkf rfl; subst hk1; simp [lb__law_spoil_1, l1, i1, e1, e10, fin, pt, hFD]
        · refine ⟨F, s, ?_, fF, oN⟩
          cases tb with
          | true => have hk1 := hkt rfl; simp [lb__law_spoil_1, l1, i1, e1, e10, fin, pt, hk1, hFD]
          | false => have hk1 := hkf rfl; subst hk1; simp [lb__law_spoil_1, l1, i1, e1, e10, fin, pt, hFD]
      · have q2' : ¬ (kind : Int) = 2 := by omega
        by_cases q3 : kind < 3
        · have q3' : (kind : Int) < 3 := by omega
          cases b
          · refine ⟨putG F ky (.int x), s, ?_, f0, oN⟩
            cases tb with
            | true => have hk1 := hkt rfl; simp [lb__law_spoil_1, l1, i1, e1, e10, fin, pt, hk1, q1, q1', q2, q2', q3, q3']
            | false => have hk1 := hkf rfl; subst hk1; simp [lb__law_spoil_1, l1, i1, e1, e10, fin, pt, q1, q1', q2, q2', q3, q3']
          · refine ⟨putG F ky (.int (x + chg)), s, ?_, f1, oN⟩
            cases tb with
            | true => have hk1 := hkt rfl; simp [lb__law_spoil_1, l1, i1, e1, e10, fin, pt, hk1, q1, q1', q2, q2', q3, q3']
            | false => have hk1 := hkf rfl; subst hk1; simp [lb__law_spoil_1, l1, i1, e1, e10, fin, pt, q1, q1', q2, q2', q3, q3']
        · have q3' : ¬ (kind : Int) < 3 := by omega
          cases b
          · refine ⟨putG F ky (.int x), s, ?_, f0, oN⟩
            cases tb with
            | true => have hk1 := hkt rfl; simp [lb__law_spoil_1, l1, i1, e1, e10, fin, pt, hk1, q1, q1', q2, q2', q3, q3']
            | false => have hk1 := hkf rfl; subst hk1; simp [lb__law_spoil_1, l1, i1, e1, e10, fin, pt, q1, q1', q2, q2', q3, q3']
          · refine ⟨putG F ky (.int x), s, ?_, f0, oN⟩
            cases tb with
            | true => have hk1 := hkt rfl; simp [lb__law_spoil_1, l1, i1, e1, e10, fin, pt, hk1, q1, q1', q2, q2', q3, q3']
            | false => have hk1 := hkf rfl; subst hk1; simp [lb__law_spoil_1, l1, i1, e1, e10, fin, pt, q1, q1', q2, q2', q3, q3']
  · have ca' : ¬ (k : Int) = at' := by omega
    by_cases q1 : kind = 1
    · subst q1
      cases b
      · refine ⟨putG F ky (.int x), s, ?_, f0, oN⟩
        cases tb with
        | true => have hk1 := hkt rfl; simp [lb__law_spoil_1, l1, i1, e1, e10, fin, pt, hk1, ca, ca']
        | false => have hk1 := hkf rfl; subst hk1; simp [lb__law_spoil_1, l1, i1, e1, e10, fin, pt, ca, ca']
      · refine ⟨putG F ky (.int (x + chg)), s, ?_, f1, oN⟩
        cases tb with
        | true => have hk1 := hkt rfl; simp [lb__law_spoil_1, l1, i1, e1, e10, fin, pt, hk1, ca, ca']
        | false => have hk1 := hkf rfl; subst hk1; simp [lb__law_spoil_1, l1, i1, e1, e10, fin, pt, ca, ca']
    · have q1' : ¬ (kind : Int) = 1 := by omega
      by_cases q2 : kind = 2
      · subst q2
        cases b
        · refine ⟨putG F ky (.int x), s, ?_, f0, oN⟩
          cases tb with
          | true => have hk1 := hkt rfl; simp [lb__law_spoil_1, l1, i1, e1, e10, fin, pt, hk1, ca, ca']
          | false => have hk1 := hkf rfl; subst hk1; simp [lb__law_spoil_1, l1, i1, e1, e10, fin, pt, ca, ca']
        · refine ⟨putG F ky (.int (x + chg)), s, ?_, f1, oN⟩
          cases tb with
          | true => have hk1 := hkt rfl; simp [lb__law_spoil_1, l1, i1, e1, e10, fin, pt, hk1, ca, ca']
          | false => have hk1 := hkf rfl; subst hk1; simp [lb__law_spoil_1, l1, i1, e1, e10, fin, pt, ca, ca']
      · have q2' : ¬ (kind : Int) = 2 := by omega
        by_cases q3 : kind < 3
        · have q3' : (kind : Int) < 3 := by omega
          cases b
          · refine ⟨putG F ky (.int x), s, ?_, f0, oN⟩
            cases tb with
            | true => have hk1 := hkt rfl; simp [lb__law_spoil_1, l1, i1, e1, e10, fin, pt, hk1, ca, ca', q1, q1', q2, q2', q3, q3']
            | false => have hk1 := hkf rfl; subst hk1; simp [lb__law_spoil_1, l1, i1, e1, e10, fin, pt, ca, ca', q1, q1', q2, q2', q3, q3']
          · refine ⟨putG F ky (.int (x + chg)), s, ?_, f1, oN⟩
            cases tb with
            | true => have hk1 := hkt rfl; simp [lb__law_spoil_1, l1, i1, e1, e10, fin, pt, hk1, ca, ca', q1, q1', q2, q2', q3, q3']
            | false => have hk1 := hkf rfl; subst hk1; simp [lb__law_spoil_1, l1, i1, e1, e10, fin, pt, ca, ca', q1, q1', q2, q2', q3, q3']
        · have q3' : ¬ (kind : Int) < 3 := by omega
          cases b
          · refine ⟨putG F ky (.int x), s, ?_, f0, oN⟩
            cases tb with
            | true => have hk1 := hkt rfl; simp [lb__law_spoil_1, l1, i1, e1, e10, fin, pt, hk1, ca, ca', q1, q1', q2, q2', q3, q3']
            | false => have hk1 := hkf rfl; subst hk1; simp [lb__law_spoil_1, l1, i1, e1, e10, fin, pt, ca, ca', q1, q1', q2, q2', q3, q3']
          · refine ⟨putG F ky (.int x), s, ?_, f0, oN⟩
            cases tb with
            | true => have hk1 := hkt rfl; simp [lb__law_spoil_1, l1, i1, e1, e10, fin, pt, hk1, ca, ca', q1, q1', q2, q2', q3, q3']
            | false => have hk1 := hkf rfl; subst hk1; simp [lb__law_spoil_1, l1, i1, e1, e10, fin, pt, ca, ca', q1, q1', q2, q2', q3, q3']
theorem FI.mono {ks ks' : List KpH} {F : List (KpH × D)} (h : FI ks F) (hs : ∀ k ∈ ks, k ∈ ks') : FI ks' F := ⟨h.nd, fun x hx => hs _ (h.sub x hx), h.ok⟩
theorem h_spoilK {n : Nat} (ks : List KpH) (hne : 0 < ks.length) (hl : ks.length ≤ 100000) (HD : D) (hH : ∀ k ∈ ks, ∃ x : Int, orIx none HD (kpD k) = some (.int x)) (hH0 : ∀ d, fIx HD d = none) (s : DS) (ho : Ok (n + ks.length + 6) s) :
    ∃ (F : List (KpH × D)) (s' : DS), m__law_spoil [stD s, .lst (ks.map kpD), HD] = .retF (dicG idD F) (some (stD s')) ∧ FI (ks ++ [(0, [0])]) F ∧ Ok n s' := by
  obtain ⟨r1, s1, d1, k1, o1⟩ := h_draw (n := n + ks.length + 5) s 2 ho (by decide) (by decide)
  obtain ⟨kind, s2, d2, k2, o2⟩ := h_draw (n := n + ks.length + 4) s1 5 o1 (by decide) (by decide)
  obtain ⟨at', s3, d3, k3, o3⟩ := h_draw (n := n + ks.length + 3) s2 (ks.length : Int) o2 (by omega) (by omega)
  obtain ⟨c1, s4, d4, k4, o4⟩ := h_draw (n := n + ks.length + 2) s3 (ks.length : Int) o3 (by omega) (by omega)
  obtain ⟨c2, s5, d5, k5, o5⟩ := h_draw (n := n + ks.length + 1) s4 (ks.length : Int) o4 (by omega) (by omega)
  obtain ⟨ch, s6, d6, k6, o6⟩ := h_draw (n := n + ks.length) s5 7 o5 (by decide) (by decide)
  have l1 : fLen [D.lst (ks.map kpD)] = some (.int ks.length) := by simp
  have lp := vLoop_range (g := tName 9) (tb := lb__law_spoil_1) (fun k de => ∃ (F : List (KpH × D)) (s' : DS), de = [.pn (stD s'), .va (.lst (ks.map kpD)), .va HD, .ow (dicG idD F), .va (.bl (decide (r1 = 1))), .va (.int kind), .va (.int at'), .va (.lst ([c1, c2].map natD)), .va (.int ((ch : Int) - 3)), .no, .no, .no] ∧ FI ks F ∧ Ok (n + (ks.length - k)) s') ks.length
    [.pn (stD s6), .va (.lst (ks.map kpD)), .va HD, .ow (dicG idD []), .va (.bl (decide (r1 = 1))), .va (.int kind), .va (.int at'), .va (.lst ([c1, c2].map natD)), .va (.int ((ch : Int) - 3)), .no, .no, .no] ⟨[], s6, rfl, FI.nil ks, o6.mono (by omega)⟩ (fun k hk de hde => by
      obtain ⟨F, s7, rfl, hF, o7⟩ := hde
      obtain ⟨F', s8, e, hF', o8⟩ := spk_b (n := n + (ks.length - (k + 1))) ks hl HD hH hH0 F hF s7 (o7.mono (by omega)) (decide (r1 = 1)) kind at' c1 c2 ((ch : Int) - 3) k hk
      exact ⟨_, _, rfl, .inl e, F', s8, rfl, hF', o8⟩)
  obtain ⟨de, e, F, s7, rfl, hF, o7⟩ := lp
  have er := rngE (j := (ks.length : Int)) (n := ks.length) rfl (by omega)
  have hFl := hF.len
  have pt := fun s de => dic0_put1 idD 3 D.non (0, [0]) F s de (by omega)
  have pt : ∀ (s : Sl) (de : DEnv), putNA 3 .non (.tup [.int 0, .tup [.int 0]]) de (some (s, dicG idD F)) = .nx (de.set 3 (s.same (dicG idD (putG F (0, [0]) .non)))) := pt
  have z0 : D.dn [] = dicG idD [] := rfl
  have b1 : (decide ((r1 : Int) = 1)) = decide (r1 = 1) := decide_eq_decide.mpr (by omega)
  rw [← b1] at e
  have ec : D.lst [.int c1, .int c2] = .lst ([c1, c2].map natD) := rfl
  have fm := hF.mono (ks' := ks ++ [(0, [0])]) fun k hk => List.mem_append_left _ hk
  by_cases c : kind = 4
  · refine ⟨putG F (0, [0]) .non, s7, ?_, fm.put (by simp) rfl, o7.mono (by omega)⟩
    subst c
    have e : vLoop (tName 9) lb__law_spoil_1 (rangeD 0 ks.length) [.pn (stD s6), .va (.lst (ks.map kpD)), .va HD, .ow (dicG idD []), .va (.bl (decide ((r1 : Int) = 1))), .va (.int 4), .va (.int at'), .va (.lst ([c1, c2].map natD)), .va (.int ((ch : Int) - 3)), .no, .no, .no] = _ := e
    have d2 : m__law_draw [stD s1, .int 5] = .ret (.int 4) (some (stD s2)) := d2
    generalize dicG idD (putG F (0, [0]) .non) = F2 at *
    generalize dicG idD F = F1 at *
    generalize dicG idD [] = F0 at *
    generalize D.lst ([c1, c2].map natD) = CH at *
    generalize D.lst (ks.map kpD) = KL at *
    simp [m__law_spoil, DL.run, e__law_spoil, d1, d2, d3, d4, d5, d6, l1, z0, ec, er, e, pt]
  · have c' : ¬ (kind : Int) = 4 := by omega
    refine ⟨F, s7, ?_, fm, o7.mono (by omega)⟩
    generalize dicG idD F = F1 at *
    generalize dicG idD [] = F0 at *
    generalize D.lst ([c1, c2].map natD) = CH at *
    generalize D.lst (ks.map kpD) = KL at *
    simp [m__law_spoil, DL.run, e__law_spoil, d1, d2, d3, d4, d5, d6, l1, z0, ec, er, e, c, c']
end K
end Lw
set_option maxRecDepth 100000
set_option maxHeartbeats 4000000
set_option exponentiation.threshold 300
set_option autoImplicit false
namespace Lw
open DL L2
namespace K
theorem six (r : Nat) (h : r < 6) : ∃ c : Int, fIx (D.lst [.int 0, .int 0, .int 1, .int (-1), .int 3, .int (-3)]) (.int r) = some (.int c) := by
  match r, h with
  | 0, _ => exact ⟨_, rfl⟩
  | 1, _ => exact ⟨_, rfl⟩
  | 2, _ => exact ⟨_, rfl⟩
  | 3, _ => exact ⟨_, rfl⟩
  | 4, _ => exact ⟨_, rfl⟩
  | 5, _ => exact ⟨_, rfl⟩
theorem putG_leK {α : Type} : ∀ (t : List (KpH × α)) (k : KpH) (a : α), (putG t k a).length ≤ t.length + 1
  | [], _, _ => Nat.le_refl _
  | e :: t, k, a => by
    unfold putG
    by_cases c : e.1 = k
    · rw [if_pos c, List.length_cons, List.length_cons]; omega
    · have := putG_leK t k a
      rw [if_neg c, List.length_cons, List.length_cons]; omega
def HI (ks : List KpH) (F : List (KpH × D)) : Prop := ∀ k ∈ ks, ∃ x : Int, lkG F k = some (.int x)
theorem HI.put {ks : List KpH} {F : List (KpH × D)} (h : HI ks F) (k : KpH) (x : Int) : HI (ks ++ [k]) (putG F k (.int x)) := fun r hr => by
  rw [lkG_put]
  by_cases c : k = r
  · rw [if_pos c]; exact ⟨x, rfl⟩
  · rw [if_neg c]
    rcases List.mem_append.mp hr with hr | hr
    · exact h r hr
    · exact absurd (List.mem_singleton.mp hr).symm c
theorem HI.put2 {ks : List KpH} {F : List (KpH × D)} {k : KpH} (h : HI (ks ++ [k]) F) (x : Int) : HI (ks ++ [k]) (putG F k (.int x)) := fun r hr => by
  rw [lkG_put]
  by_cases c : k = r
  · rw [if_pos c]; exact ⟨x, rfl⟩
  · rw [if_neg c]; exact h r hr
theorem mem_tup1 {L : Nat} (h : 1 ≤ L) : [0] ∈ tuplesOf (List.range L) 1 := by
  have := mem_rowsAt (R := ⟨L, 1, 0, 0⟩) (es := [(true, 0)]) (i := 1) (row := [0]) ⟨by simp, by simp; omega, by simp⟩ rfl
  exact this
theorem tb_l {n : Nat} (x0 x3 x4 x6 x7 x8 x9 x14 x15 : Sl) (ob : Bool) (es : List Dd) (hes : es.length ≤ 8) (t : TK) (ks : List KpH) (ht : ∀ k ∈ ks, k.1 ≤ es.length ∧ ∃ x : Int, lkK t k = some x) : ∀ (l acc : List KpH) (F : List (KpH × D)) (s : DS), (∀ k ∈ l, k ∈ ks) → HI acc F → F.length + 2 * l.length ≤ 1000000 → Ok (n + 2 * l.length) s →
    ∃ (F' : List (KpH × D)) (s' : DS), vLoop (tName 13) lb_law_1 (l.map kpD) [x0, .no, .ow (stD s), x3, x4, .va (dsD es), x6, x7, x8, x9, .va (dicK t), .va (.bl ob), .ow (dicG idD F), .no, x14, x15] = .nx [x0, .no, .ow (stD s'), x3, x4, .va (dsD es), x6, x7, x8, x9, .va (dicK t), .va (.bl ob), .ow (dicG idD F'), .no, x14, x15] ∧ HI (acc ++ l) F' ∧ Ok n s'
  | [], acc, F, s, _, hF, _, ho => ⟨F, s, rfl, by rw [List.append_nil]; exact hF, ho⟩
  | k :: l, acc, F, s, hks, hF, hl, ho => by
    rw [List.length_cons] at hl ho
    obtain ⟨h1, x, hx⟩ := ht k (hks k List.mem_cons_self)
    have e1 := dicK_ix t k
    rw [hx] at e1
    have e1 : orIx none (dicK t) (kpD k) = some (.int x) := e1
    have e0 := dicK_ix0 t (kpD k)
    have i0 : fIx (kpD k) (.int 0) = some (.int k.1) := rfl
    have ln : fLen [dsD es] = some (.int es.length) := by simp [dsD]
    have pt := fun (a : D) (F : List (KpH × D)) (hF : F.length < 16777216) s de => dic0_put1 idD 12 a k F s de hF
    have pt : ∀ (a : D) (F : List (KpH × D)), F.length < 16777216 → ∀ (s : Sl) (de : DEnv), putNA 12 a (kpD k) de (some (s, dicG idD F)) = .nx (de.set 12 (s.same (dicG idD (putG F k a)))) := pt
    have pl := putG_leK F k (.int x)
    have p1 := pt (.int x) F (by omega)
    have F1 := hF.put k x
    have obtainK : ∃ (F' : List (KpH × D)) (s' : DS), lb_law_1 [x0, .no, .ow (stD s), x3, x4, .va (dsD es), x6, x7, x8, x9, .va (dicK t), .va (.bl ob), .ow (dicG idD F), .va (kpD k), x14, x15] = .nx [x0, .no, .ow (stD s'), x3, x4, .va (dsD es), x6, x7, x8, x9, .va (dicK t), .va (.bl ob), .ow (dicG idD F'), .no, x14, x15] ∧ HI (acc ++ [k]) F' ∧ F'.length ≤ F.length + 2 ∧ Ok (n + 2 * l.length) s' := by
      cases ob with
      | false =>
        refine ⟨putG F k (.int x), s, ?_, F1, by omega, ho.mono (by omega)⟩
        generalize dicK t = TD at *
        generalize dicG idD (putG F k (.int x)) = F2 at *
        generalize dicG idD F = F0 at *
        generalize kpD k = T at *
        generalize dsD es = DS at *
        simp [lb_law_1, e1, e0, p1]
      | true =>
        obtain ⟨r2, s1, d2, k2, o1⟩ := h_draw (n := n + 2 * l.length + 1) s 2 (ho.mono (by omega)) (by decide) (by decide)
        obtain ⟨r3, s2, d3, k3, o2⟩ := h_draw (n := n + 2 * l.length) s1 3 o1 (by decide) (by decide)
        have c1 : cMul ((es.length : Int) - (k.1 : Int)) (r2 : Int) = true := cMul_ok (Nat.lt_of_le_of_lt (by omega : ((es.length : Int) - (k.1 : Int)).natAbs ≤ 8) (by decide)) (Nat.lt_of_le_of_lt (by omega : ((r2 : Int)).natAbs ≤ 8) (by decide))
        have c2 : cDiv (r3 : Int) 2 = true := cDiv_ok (by decide) (by decide)
        obtain ⟨y, hy⟩ : ∃ y : Int, y = ((es.length : Int) - (k.1 : Int)) * r2 - (r3 : Int) / 2 := ⟨_, rfl⟩
        have p2 := pt (.int y) (putG F k (.int x)) (by omega)
        have pl2 := putG_leK (putG F k (.int x)) k (.int y)
        refine ⟨putG (putG F k (.int x)) k (.int y), s2, ?_, F1.put2 y, by omega, o2⟩
        subst hy
        generalize dicK t = TD at *
        generalize dicG idD (putG (putG F k (.int x)) k (.int (((es.length : Int) - (k.1 : Int)) * r2 - (r3 : Int) / 2))) = F3 at *
        generalize dicG idD (putG F k (.int x)) = F2 at *
        generalize dicG idD F = F0 at *
        generalize kpD k = T at *
        generalize dsD es = DS at *
        simp [lb_law_1, e1, e0, p1, ln, i0, d2, d3, c1, c2, p2]
    obtain ⟨F', s', es', hF', hl', o'⟩ := obtainK
    obtain ⟨F2, s2, e2, h2, o2⟩ := tb_l (n := n) x0 x3 x4 x6 x7 x8 x9 x14 x15 ob es hes t ks ht l (acc ++ [k]) F' s' (fun r hr => hks r (List.mem_cons_of_mem _ hr)) hF' (by omega) o'
    rw [List.append_assoc] at h2
    exact ⟨F2, s2, by rw [List.map_cons]; exact (vLoop_nx (by simp) es').trans e2, h2, o2⟩
theorem b88 (ns : List Int) (k : Nat) (hk : k < 1000) : lb_law_2 [.va (.scr (ns.map .int)), .va (.int k), .no, .no, .no, .no, .no, .no, .no, .no, .no, .no, .no, .no, .no, .no] = .nx [.va (.scr (ns.map .int)), .no, .no, .no, .no, .no, .no, .no, .no, .no, .no, .no, .no, .no, .no, .no] := by
  obtain ⟨s0, e0, o0⟩ := h_state ns k (k : Int) rfl (by omega)
  obtain ⟨R, s1, e1, hR, hsz, o1⟩ := h_valuesG (n := 200000) s0 8 8 rfl (o0.mono (by decide)) (by decide) (by decide)
  have hso := sizes_ok hsz
  have hc := sizes_few hsz
  have hR4 : R.Ok4 := ⟨hR, hso.2.2.2.2⟩
  have e2 := h_make R hR
  obtain ⟨m, s2, e3, k3, o2⟩ := h_draw (n := 199000) s1 9 (o1.mono (by decide)) (by decide) (by decide)
  obtain ⟨es, s3, e4, hf, hel, o3⟩ := h_deeds3 (n := 190000) R hR s2 m m rfl (by omega) (o2.mono (by omega))
  have hl8 : es.length ≤ 8 := by omega
  have e4 : m__law_deeds [stD s2, valsD R, .int m] = .retF (dsD es) (some (stD s3)) := e4
  have e5 := h_sizesL R.M es hf (by omega)
  have e6 := h_keysL R hR4 es hf hl8
  obtain ⟨t, ec, ht, htl⟩ := p_cost R hR4 es hf (by omega)
  have e7 := p_least R hR hc es hf (by omega) t ht ec
  have e9 := p_cert R hR hc es hf (by omega) t ec
  obtain ⟨r6, s4, e8, k8, o4⟩ := h_draw (n := 180000) s3 6 (o3.mono (by decide)) (by decide) (by decide)
  obtain ⟨c, hcx⟩ := six r6 (by omega)
  obtain ⟨r3, s5, e10, k10, o5⟩ := h_draw (n := 170000) s4 3 (o4.mono (by decide)) (by decide) (by decide)
  have hkl := keysE_len hR4 hf hl8
  obtain ⟨F0, s6, e12, hI, o6⟩ := tb_l (n := 100000) (.va (.scr (ns.map .int))) (.va (valsD R)) (.va (roomD R)) (.va (szsD es)) (.va (.lst ((keysE R es).map kpD))) (.va (.int (bc R es []))) (.va (.int (bc R es [] + c))) .no .no (decide (r3 = 0)) es hl8 t (keysE R es) (fun k hk => by
    obtain ⟨h1, h2⟩ := keysE_mem hk
    exact ⟨h1, _, ht.at h1 h2⟩) (keysE R es) [] [] s5 (fun k h => h) (fun k hk => (nomatch hk)) (by rw [List.length_nil]; omega) (o5.mono (by omega))
  rw [List.nil_append] at hI
  have h0k : 0 < (keysE R es).length := List.length_pos_of_mem (List.mem_flatMap.mpr ⟨0, List.mem_range.mpr (by omega), List.mem_map.mpr ⟨[], row0 (R := R) es, rfl⟩⟩)
  obtain ⟨F, s7, e13, hF, o7⟩ := h_spoilK (n := 10) (keysE R es) h0k (by omega) (dicG idD F0) (fun k hk => by
    obtain ⟨x, hx⟩ := hI k hk
    have q := dicG_ix idD F0 k
    rw [hx] at q
    exact ⟨x, q⟩) (dicG_ix0 idD F0) s6 (o6.mono (by omega))
  have ho : OkT F := fun k d e => hF.at e
  have e14 := h_dueK R hR4 es hf hl8 F ho (bc R es [] + c)
  have e17 := p_plan_faultK R hR4 hc es hf (by omega) F ho (bc R es [] + c)
  have e18 := h_sameK (pf_flt R es F (bc R es [] + c))
  have h00 : [0] ∈ tuplesOf (List.range R.L) 1 := mem_tup1 hso.1
  have hF2 : FI (keysA R) F := hF.mono fun k hk => by
    rcases List.mem_append.mp hk with hk | hk
    · obtain ⟨h1, h2⟩ := keysE_mem hk
      exact keysA_at hf hl8 h1 h2
    · rw [List.mem_singleton.mp hk]
      exact keysA_mem (by decide) hso.2.2.1 h00
  have e16 := h_copyK hsz hF2
  have hdl : pfF R es F (bc R es [] + c) = none → ¬ bc R es [] < bc R es [] + c := fun h => by
    have := dual hR hf h
    omega
  have hni : ∀ z, pfF R es F (bc R es [] + c) = some z → DL.isNon z = false := fun z hz => by
    obtain ⟨_, xs, rfl⟩ := pf_flt R es F _ z hz
    rfl
  have ll : fList [dsD es] = some (dsD es) := by unfold dsD; simp <;> omega
  have i3 : itemsOf (D.lst ((keysE R es).map kpD)) = some ((keysE R es).map kpD) := rfl
  have lk : ((keysE R es).map kpD).length ≤ 16777216 := by rw [List.length_map]; omega
  have z0 : D.dn [] = dicG idD [] := rfl
  obtain ⟨N, fl⟩ : ∃ N : Int, fLenN [dicG idD F] = some (.int N) := ⟨_, rfl⟩
  clear hF hF2 ho hI ht
  generalize pfF R es F (bc R es [] + c) = du at *
  generalize bc R es [] = b at *
  generalize dicK t = TD at *
  generalize dicG idD [] = D0 at *
  generalize dicG idD F0 = D1 at *
  generalize dicG idD F = D2 at *
  generalize D.lst ((keysE R es).map kpD) = KL at *
  generalize (keysE R es).map kpD = KS at *
  generalize szsD es = SZ at *
  generalize dsD es = DS at *
  generalize valsD R = vR at *
  generalize roomD R = rR at *
  cases du with
  | none =>
    have hdl := hdl rfl
    have z : optF none = .non := rfl
    rw [z] at e14 e17 e18
    simp [lb_law_2, e0, tl_law_2, e1, tl_law_3, e2, tl_law_4, e3, e4, tl_law_5, e5, tl_law_6, e6, tl_law_7, ll, e7, tl_law_8, e8, hcx, tl_law_9, e9, tl_law_10, e10, tl_law_11, z0, tl_law_12, i3, lk, e12, tl_law_13, e13, tl_law_14, e14, tl_law_15, hdl, tl_law_16, e16, tl_law_17, e17, e18, fl]
  | some z =>
    have hni := hni z rfl
    have z9 : optF (some z) = z := rfl
    rw [z9] at e14 e17 e18
    simp [lb_law_2, e0, tl_law_2, e1, tl_law_3, e2, tl_law_4, e3, e4, tl_law_5, e5, tl_law_6, e6, tl_law_7, ll, e7, tl_law_8, e8, hcx, tl_law_9, e9, tl_law_10, e10, tl_law_11, z0, tl_law_12, i3, lk, e12, tl_law_13, e13, tl_law_14, e14, tl_law_15, hni, tl_law_16, e16, tl_law_17, e17, e18, fl]
end K
theorem p_law (ns : List Int) (hl : ns.length ≤ 63) : ∃ q, m_law [.scr (ns.map .int)] = .ret (.bl true) q := by
  have hlen : (cutD (ns.map D.int) none (some 3)).length ≤ 63 := Nat.le_trans (cutD_len _ _ _) (by simpa using hl)
  obtain ⟨m, hm⟩ : ∃ m, (cutD (ns.map D.int) none (some 3)).length = m := ⟨_, rfl⟩
  rw [hm] at hlen
  have lp := vLoop_range (g := tName 1) (tb := lb_law_2) (fun k de => de = [.va (.scr (ns.map .int)), .no, .no, .no, .no, .no, .no, .no, .no, .no, .no, .no, .no, .no, .no, .no]) (1 + m)
    [.va (.scr (ns.map .int)), .no, .no, .no, .no, .no, .no, .no, .no, .no, .no, .no, .no, .no, .no, .no] rfl (fun k hk de hde => by
      subst hde
      exact ⟨_, _, rfl, .inl (K.b88 ns k (by omega)), rfl⟩)
  obtain ⟨de, e, rfl⟩ := lp
  have er := rngE (j := 1 + (m : Int)) (n := 1 + m) (by omega) (by omega)
  exact ⟨none, by simp [m_law, DL.run, e_law, hm, er, e]⟩
end Lw
open PySem PySem.W PySem.Calls PyProof.Rows HeadRun
local macro_rules
  | `(tactic| o_headL ($_f:ident $_k $_a $_e)) => `(tactic| exact False.elim (by assumption))
set_option maxRecDepth 100000 in
set_option maxHeartbeats 0 in
theorem Lw.pre (_h : False) : (OpenLaw.row PySem.Challenge.rw_labelgaps_k88_plan_faults).Holds := by
  k_headL
def Lw.prm : Params := { strHash := fun _ => 0, shareClass := fun _ => 0, mergeTok := fun t => t, idOf := fun _ => 0, idOfShared := fun _ _ => 0, followText := fun _ => false, idOfImm := fun _ => 0 }
noncomputable def Lw.has : List Addr := (Lw.pre.heap_1 Lw.prm).map (·.1)
theorem Lw.has_eq : ∀ P, Lw.has = (Lw.pre.heap_1 P).map (·.1) := fun _ => by kernel_rfl
noncomputable abbrev Lw.hq : Program := view PySem.Challenge.pw_labelgaps_k88_plan_faults [61]
def Lw.hn0 : List Str := [("_wall" : Str), ("__name__" : Str), ("LabelError" : Str), ("BadRoom" : Str), ("NoRoom" : Str), ("NoSize" : Str), ("BadDeed" : Str), ("TooMany" : Str), ("NoLevel" : Str), ("NoHeights" : Str), ("is_integer" : Str), ("MOST_LABELS" : Str), ("MOST_PRICE" : Str), ("in_range" : Str), ("Room" : Str), ("need_room" : Str), ("tuples_of" : Str), ("standings" : Str), ("move_price" : Str), ("count_standings" : Str), ("need_few" : Str), ("MOST_DEEDS" : Str), ("deed_fits" : Str), ("without" : Str), ("bad_deed_from" : Str), ("need_deeds" : Str), ("paid_for" : Str), ("need_dict" : Str), ("MOST_AHEAD" : Str), ("sizes_of" : Str), ("after_all" : Str), ("cost_table" : Str), ("need_ahead" : Str), ("least_total" : Str), ("plan_certificate" : Str)]
def Lw.hn1 : List Str := [("key_fault" : Str), ("plan_fault" : Str), ("_law_state" : Str), ("_law_draw" : Str), ("_law_values" : Str), ("_law_make" : Str), ("_law_rows" : Str), ("_law_all" : Str), ("_law_price" : Str), ("_law_without" : Str), ("_law_whole" : Str), ("_law_after" : Str), ("_law_paid" : Str), ("_law_deeds" : Str), ("_law_same" : Str), ("_law_sizes" : Str), ("_law_keys" : Str), ("_law_due" : Str), ("_law_spoil" : Str)]
def Lw.hn : List Str := Lw.hn0 ++ Lw.hn1
set_option maxRecDepth 100000 in
set_option maxHeartbeats 0 in
theorem Lw.run1 (w : World) : (Lw.WF PySem.Challenge.pw_labelgaps_k88_plan_faults 60000 w).map (fun x => looksF PySem.Challenge.pw_labelgaps_k88_plan_faults x.1.heap x.2.abs) = some true := by
  kernel_rfl
set_option maxRecDepth 100000 in
set_option maxHeartbeats 0 in
theorem Lw.run2 (w : World) : (Lw.WF PySem.Challenge.pw_labelgaps_k88_plan_faults 60000 w).map (fun x => seenQ Lw.hq Lw.hn (importedModules PySem.Challenge.pw_labelgaps_k88_plan_faults.main.body) (fun s => xlAt Lw.hq [] s && recOk (OpenLaw.row PySem.Challenge.rw_labelgaps_k88_plan_faults).toRowW.records s) x.2.abs) = some (openGood Lw.hq Lw.hn) := by
  kernel_rfl
set_option maxRecDepth 100000 in
set_option maxHeartbeats 0 in
theorem Lw.run3 (w : World) : (Lw.WF PySem.Challenge.pw_labelgaps_k88_plan_faults 60000 w).map (fun x => Lw.has.map (getT x.2)) = some ((Lw.pre.heap_1 w.params).map fun x => some x.2) := by
  kernel_rfl
set_option maxRecDepth 100000 in
set_option maxHeartbeats 0 in
theorem PySem.Challenge.cw_labelgaps_k88_plan_faults_holds : PySem.Challenge.rw_labelgaps_k88_plan_faults.Holds := by
  w_on; o_law
  refine' Lw.head_all (r := (OpenLaw.row PySem.Challenge.rw_labelgaps_k88_plan_faults)) (q := Lw.hq) (H := (kHook Lw.pre.heap_1 Lw.has Lw.has_eq)) (loose := Lw.hn) (N := 60000) (kwd := []) Lw.run1 Lw.run2 (Lw.obs_k Lw.run3) (by rfl) (by rfl) (by rfl) (by rfl) (by first | assumption | decide +kernel) (by decide +kernel) ⟨rfl, rfl, rfl, rfl, rfl, by decide +kernel⟩ ?hw ?hc
  (case hw => w_witness2)
  refine Lw.walk Lw.p_law rfl (by decide +kernel) (fun w h Y => PySem.W.kIn_of Y) ?F
  case F =>
    intro w mg fa h KX G hmg
    refine' Lw.all_mk KX G hmg ?ac_LabelError ?ac_BadRoom ?ac_NoRoom ?ac_NoSize ?ac_BadDeed ?ac_TooMany ?ac_NoLevel ?ac_NoHeights ?ac_Room ?a__law_state ?l__law_state ?c__law_state ?k__law_state ?a__law_draw ?l__law_draw ?c__law_draw ?k__law_draw ?a__law_values ?l__law_values ?c__law_values ?k__law_values ?a_is_integer ?l_is_integer ?c_is_integer ?k_is_integer ?a_in_range ?l_in_range ?c_in_range ?k_in_range ?a_Room_init ?i_Room_init ?l_Room_init ?c_Room_init ?k_Room_init ?kd_Room_init_change ?kd_Room_init_step ?a__law_make ?l__law_make ?c__law_make ?k__law_make ?a__law_deeds ?l__law_deeds ?c__law_deeds ?k__law_deeds ?a__law_sizes ?l__law_sizes ?c__law_sizes ?k__law_sizes ?a__law_rows ?l__law_rows ?c__law_rows ?k__law_rows ?a__law_keys ?l__law_keys ?c__law_keys ?k__law_keys ?a_need_room ?l_need_room ?c_need_room ?k_need_room ?a_deed_fits ?l_deed_fits ?c_deed_fits ?k_deed_fits ?a_bad_deed_from ?l_bad_deed_from ?c_bad_deed_from ?k_bad_deed_from ?lt_bad_deed_from ?ld_bad_deed_from ?a_need_deeds ?l_need_deeds ?c_need_deeds ?k_need_deeds ?lt_need_deeds ?ld_need_deeds ?a_count_standings ?l_count_standings ?c_count_standings ?k_count_standings ?a_need_few ?l_need_few ?c_need_few ?k_need_few ?lt_need_few ?ld_need_few ?a_need_ahead ?l_need_ahead ?c_need_ahead ?k_need_ahead ?a_sizes_of ?l_sizes_of ?c_sizes_of ?k_sizes_of ?a_tuples_of ?l_tuples_of ?c_tuples_of ?k_tuples_of ?a_standings ?l_standings ?c_standings ?k_standings ?lt_standings ?ld_standings ?a_move_price ?l_move_price ?c_move_price ?k_move_price ?a_paid_for ?l_paid_for ?c_paid_for ?k_paid_for ?a_without ?l_without ?c_without ?k_without ?a_after_all ?l_after_all ?c_after_all ?k_after_all ?a_cost_table ?l_cost_table ?c_cost_table ?k_cost_table ?a_least_total ?l_least_total ?c_least_total ?k_least_total ?a_plan_certificate ?l_plan_certificate ?c_plan_certificate ?k_plan_certificate ?a__law_spoil ?l__law_spoil ?c__law_spoil ?k__law_spoil ?a__law_without ?l__law_without ?c__law_without ?k__law_without ?a__law_after ?l__law_after ?c__law_after ?k__law_after ?a__law_whole ?l__law_whole ?c__law_whole ?k__law_whole ?a__law_price ?l__law_price ?c__law_price ?k__law_price ?a__law_paid ?l__law_paid ?c__law_paid ?k__law_paid ?a__law_due ?l__law_due ?c__law_due ?k__law_due ?a__law_same ?l__law_same ?c__law_same ?k__law_same ?a_need_dict ?l_need_dict ?c_need_dict ?k_need_dict ?a_key_fault ?l_key_fault ?c_key_fault ?k_key_fault ?a_plan_fault ?l_plan_fault ?c_plan_fault ?k_plan_fault ?a_law ?l_law ?c_law ?k_law ?pg_Room ?hd_Room ?po_Room ?sa_Room ?mk_Room ?kk_Room ?z_len ?z_abs ?z_int ?z_isinstance ?z_bool ?zv_MOST_LABELS ?zv_MOST_PRICE ?na_Room_labels ?na_Room_most ?na_Room_change ?na_Room_step ?z_range ?z_tuple ?z_str ?z_list ?z_enumerate ?zv_MOST_AHEAD ?z_reversed ?z_min ?z_dict ?ex_BadRoom ?ty_BadRoom ?xh_BadRoom ?ex_NoRoom ?ty_NoRoom ?xh_NoRoom ?ex_NoSize ?ty_NoSize ?xh_NoSize ?ex_BadDeed ?ty_BadDeed ?xh_BadDeed ?ex_TooMany ?ty_TooMany ?xh_TooMany ?ex_NoLevel ?ty_NoLevel ?xh_NoLevel ?ex_NoHeights ?ty_NoHeights ?xh_NoHeights ?xl_BadRoom ?xr_BadRoom ?xs_BadRoom ?xi_BadRoom ?xt_BadRoom ?xk_BadRoom ?xe_BadRoom ?xu_BadRoom ?xv_BadRoom ?xm_BadRoom ?xp_BadRoom ?xc_BadRoom ?xd_BadRoom ?xo_BadRoom ?xq_BadRoom ?xw_BadRoom ?xz_BadRoom ?z_super ?zt_any ?xl_NoRoom ?xr_NoRoom ?xs_NoRoom ?xi_NoRoom ?xt_NoRoom ?xk_NoRoom ?xe_NoRoom ?xu_NoRoom ?xv_NoRoom ?xm_NoRoom ?xp_NoRoom ?xc_NoRoom ?xd_NoRoom ?xo_NoRoom ?xq_NoRoom ?xw_NoRoom ?xz_NoRoom ?xl_NoSize ?xr_NoSize ?xs_NoSize ?xi_NoSize ?xt_NoSize ?xk_NoSize ?xe_NoSize ?xu_NoSize ?xv_NoSize ?xm_NoSize ?xp_NoSize ?xc_NoSize ?xd_NoSize ?xo_NoSize ?xq_NoSize ?xw_NoSize ?xz_NoSize ?xl_BadDeed ?xr_BadDeed ?xs_BadDeed ?xi_BadDeed ?xt_BadDeed ?xk_BadDeed ?xe_BadDeed ?xu_BadDeed ?xv_BadDeed ?xm_BadDeed ?xp_BadDeed ?xc_BadDeed ?xd_BadDeed ?xo_BadDeed ?xq_BadDeed ?xw_BadDeed ?xz_BadDeed ?xl_TooMany ?xr_TooMany ?xs_TooMany ?xi_TooMany ?xt_TooMany ?xk_TooMany ?xe_TooMany ?xu_TooMany ?xv_TooMany ?xm_TooMany ?xp_TooMany ?xc_TooMany ?xd_TooMany ?xo_TooMany ?xq_TooMany ?xw_TooMany ?xz_TooMany ?xl_NoLevel ?xr_NoLevel ?xs_NoLevel ?xi_NoLevel ?xt_NoLevel ?xk_NoLevel ?xe_NoLevel ?xu_NoLevel ?xv_NoLevel ?xm_NoLevel ?xp_NoLevel ?xc_NoLevel ?xd_NoLevel ?xo_NoLevel ?xq_NoLevel ?xw_NoLevel ?xz_NoLevel ?xl_NoHeights ?xr_NoHeights ?xs_NoHeights ?xi_NoHeights ?xt_NoHeights ?xk_NoHeights ?xe_NoHeights ?xu_NoHeights ?xv_NoHeights ?xm_NoHeights ?xp_NoHeights ?xc_NoHeights ?xd_NoHeights ?xo_NoHeights ?xq_NoHeights ?xw_NoHeights ?xz_NoHeights ?qa_Room ?qm_Room ?qi_Room ?qt_Room ?qb_Room_bool ?qb_Room_int ?qb_Room_str ?qb_Room_tuple ?qb_Room_list ?qb_Room_dict ?qn ?qk
    (case ac_LabelError => k_is)
    (case ac_BadRoom => k_is)
    (case ac_NoRoom => k_is)
    (case ac_NoSize => k_is)
    (case ac_BadDeed => k_is)
    (case ac_TooMany => k_is)
    (case ac_NoLevel => k_is)
    (case ac_NoHeights => k_is)
    (case ac_Room => k_is)
    (case a__law_state => k_is)
    (case l__law_state => k_is)
    (case c__law_state => k_is)
    (case k__law_state => k_is)
    (case a__law_draw => k_is)
    (case l__law_draw => k_is)
    (case c__law_draw => k_is)
    (case k__law_draw => k_is)
    (case a__law_values => k_is)
    (case l__law_values => k_is)
    (case c__law_values => k_is)
    (case k__law_values => k_is)
    (case a_is_integer => k_is)
    (case l_is_integer => k_is)
    (case c_is_integer => k_is)
    (case k_is_integer => k_is)
    (case a_in_range => k_is)
    (case l_in_range => k_is)
    (case c_in_range => k_is)
    (case k_in_range => k_is)
    (case a_Room_init => k_is)
    (case i_Room_init => k_is)
    (case l_Room_init => k_is)
    (case c_Room_init => k_is)
    (case k_Room_init => k_is)
    (case kd_Room_init_change => k_is)
    (case kd_Room_init_step => k_is)
    (case a__law_make => k_is)
    (case l__law_make => k_is)
    (case c__law_make => k_is)
    (case k__law_make => k_is)
    (case a__law_deeds => k_is)
    (case l__law_deeds => k_is)
    (case c__law_deeds => k_is)
    (case k__law_deeds => k_is)
    (case a__law_sizes => k_is)
    (case l__law_sizes => k_is)
    (case c__law_sizes => k_is)
    (case k__law_sizes => k_is)
    (case a__law_rows => k_is)
    (case l__law_rows => k_is)
    (case c__law_rows => k_is)
    (case k__law_rows => k_is)
    (case a__law_keys => k_is)
    (case l__law_keys => k_is)
    (case c__law_keys => k_is)
    (case k__law_keys => k_is)
    (case a_need_room => k_is)
    (case l_need_room => k_is)
    (case c_need_room => k_is)
    (case k_need_room => k_is)
    (case a_deed_fits => k_is)
    (case l_deed_fits => k_is)
    (case c_deed_fits => k_is)
    (case k_deed_fits => k_is)
    (case a_bad_deed_from => k_is)
    (case l_bad_deed_from => k_is)
    (case c_bad_deed_from => k_is)
    (case k_bad_deed_from => k_is)
    (case lt_bad_deed_from => k_is)
    (case ld_bad_deed_from => first | rfl | k_is)
    (case a_need_deeds => k_is)
    (case l_need_deeds => k_is)
    (case c_need_deeds => k_is)
    (case k_need_deeds => k_is)
    (case lt_need_deeds => k_is)
    (case ld_need_deeds => first | rfl | k_is)
    (case a_count_standings => k_is)
    (case l_count_standings => k_is)
    (case c_count_standings => k_is)
    (case k_count_standings => k_is)
    (case a_need_few => k_is)
    (case l_need_few => k_is)
    (case c_need_few => k_is)
    (case k_need_few => k_is)
    (case lt_need_few => k_is)
    (case ld_need_few => first | rfl | k_is)
    (case a_need_ahead => k_is)
    (case l_need_ahead => k_is)
    (case c_need_ahead => k_is)
    (case k_need_ahead => k_is)
    (case a_sizes_of => k_is)
    (case l_sizes_of => k_is)
    (case c_sizes_of => k_is)
    (case k_sizes_of => k_is)
    (case a_tuples_of => k_is)
    (case l_tuples_of => k_is)
    (case c_tuples_of => k_is)
    (case k_tuples_of => k_is)
    (case a_standings => k_is)
    (case l_standings => k_is)
    (case c_standings => k_is)
    (case k_standings => k_is)
    (case lt_standings => k_is)
    (case ld_standings => first | rfl | k_is)
    (case a_move_price => k_is)
    (case l_move_price => k_is)
    (case c_move_price => k_is)
    (case k_move_price => k_is)
    (case a_paid_for => k_is)
    (case l_paid_for => k_is)
    (case c_paid_for => k_is)
    (case k_paid_for => k_is)
    (case a_without => k_is)
    (case l_without => k_is)
    (case c_without => k_is)
    (case k_without => k_is)
    (case a_after_all => k_is)
    (case l_after_all => k_is)
    (case c_after_all => k_is)
    (case k_after_all => k_is)
    (case a_cost_table => k_is)
    (case l_cost_table => k_is)
    (case c_cost_table => k_is)
    (case k_cost_table => k_is)
    (case a_least_total => k_is)
    (case l_least_total => k_is)
    (case c_least_total => k_is)
    (case k_least_total => k_is)
    (case a_plan_certificate => k_is)
    (case l_plan_certificate => k_is)
    (case c_plan_certificate => k_is)
    (case k_plan_certificate => k_is)
    (case a__law_spoil => k_is)
    (case l__law_spoil => k_is)
    (case c__law_spoil => k_is)
    (case k__law_spoil => k_is)
    (case a__law_without => k_is)
    (case l__law_without => k_is)
    (case c__law_without => k_is)
    (case k__law_without => k_is)
    (case a__law_after => k_is)
    (case l__law_after => k_is)
    (case c__law_after => k_is)
    (case k__law_after => k_is)
    (case a__law_whole => k_is)
    (case l__law_whole => k_is)
    (case c__law_whole => k_is)
    (case k__law_whole => k_is)
    (case a__law_price => k_is)
    (case l__law_price => k_is)
    (case c__law_price => k_is)
    (case k__law_price => k_is)
    (case a__law_paid => k_is)
    (case l__law_paid => k_is)
    (case c__law_paid => k_is)
    (case k__law_paid => k_is)
    (case a__law_due => k_is)
    (case l__law_due => k_is)
    (case c__law_due => k_is)
    (case k__law_due => k_is)
    (case a__law_same => k_is)
    (case l__law_same => k_is)
    (case c__law_same => k_is)
    (case k__law_same => k_is)
    (case a_need_dict => k_is)
    (case l_need_dict => k_is)
    (case c_need_dict => k_is)
    (case k_need_dict => k_is)
    (case a_key_fault => k_is)
    (case l_key_fault => k_is)
    (case c_key_fault => k_is)
    (case k_key_fault => k_is)
    (case a_plan_fault => k_is)
    (case l_plan_fault => k_is)
    (case c_plan_fault => k_is)
    (case k_plan_fault => k_is)
    (case a_law => k_is)
    (case l_law => k_is)
    (case c_law => k_is)
    (case k_law => k_is)
    (case pg_Room => k_is)
    (case hd_Room => k_is)
    (case po_Room => k_is)
    (case sa_Room => k_is)
    (case mk_Room => k_is)
    (case kk_Room => k_is)
    (case z_len => k_is)
    (case z_abs => k_is)
    (case z_int => k_is)
    (case z_isinstance => k_is)
    (case z_bool => k_is)
    (case zv_MOST_LABELS => k_is)
    (case zv_MOST_PRICE => k_is)
    (case na_Room_labels => k_is)
    (case na_Room_most => k_is)
    (case na_Room_change => k_is)
    (case na_Room_step => k_is)
    (case z_range => k_is)
    (case z_tuple => k_is)
    (case z_str => k_is)
    (case z_list => k_is)
    (case z_enumerate => k_is)
    (case zv_MOST_AHEAD => k_is)
    (case z_reversed => k_is)
    (case z_min => k_is)
    (case z_dict => k_is)
    (case ex_BadRoom => k_is)
    (case ty_BadRoom => k_is)
    (case xh_BadRoom => k_is)
    (case ex_NoRoom => k_is)
    (case ty_NoRoom => k_is)
    (case xh_NoRoom => k_is)
    (case ex_NoSize => k_is)
    (case ty_NoSize => k_is)
    (case xh_NoSize => k_is)
    (case ex_BadDeed => k_is)
    (case ty_BadDeed => k_is)
    (case xh_BadDeed => k_is)
    (case ex_TooMany => k_is)
    (case ty_TooMany => k_is)
    (case xh_TooMany => k_is)
    (case ex_NoLevel => k_is)
    (case ty_NoLevel => k_is)
    (case xh_NoLevel => k_is)
    (case ex_NoHeights => k_is)
    (case ty_NoHeights => k_is)
    (case xh_NoHeights => k_is)
    (case xl_BadRoom => k_is)
    (case xr_BadRoom => first | rfl | k_is)
    (case xs_BadRoom => k_is)
    (case xi_BadRoom => k_is)
    (case xt_BadRoom => k_is)
    (case xk_BadRoom => k_is)
    (case xe_BadRoom => kx_is)
    (case xu_BadRoom => ks_is)
    (case xv_BadRoom => k_is)
    (case xm_BadRoom => k_is)
    (case xp_BadRoom => k_is)
    (case xc_BadRoom => k_is)
    (case xd_BadRoom => k_is)
    (case xo_BadRoom => k_is)
    (case xq_BadRoom => first | rfl | k_is)
    (case xw_BadRoom => first | rfl | k_is)
    (case xz_BadRoom => k_is)
    (case z_super => k_is)
    (case zt_any => k_is)
    (case xl_NoRoom => k_is)
    (case xr_NoRoom => first | rfl | k_is)
    (case xs_NoRoom => k_is)
    (case xi_NoRoom => k_is)
    (case xt_NoRoom => k_is)
    (case xk_NoRoom => k_is)
    (case xe_NoRoom => kx_is)
    (case xu_NoRoom => ks_is)
    (case xv_NoRoom => k_is)
    (case xm_NoRoom => k_is)
    (case xp_NoRoom => k_is)
    (case xc_NoRoom => k_is)
    (case xd_NoRoom => k_is)
    (case xo_NoRoom => k_is)
    (case xq_NoRoom => first | rfl | k_is)
    (case xw_NoRoom => first | rfl | k_is)
    (case xz_NoRoom => k_is)
    (case xl_NoSize => k_is)
    (case xr_NoSize => first | rfl | k_is)
    (case xs_NoSize => k_is)
    (case xi_NoSize => k_is)
    (case xt_NoSize => k_is)
    (case xk_NoSize => k_is)
    (case xe_NoSize => kx_is)
    (case xu_NoSize => ks_is)
    (case xv_NoSize => k_is)
    (case xm_NoSize => k_is)
    (case xp_NoSize => k_is)
    (case xc_NoSize => k_is)
    (case xd_NoSize => k_is)
    (case xo_NoSize => k_is)
    (case xq_NoSize => first | rfl | k_is)
    (case xw_NoSize => first | rfl | k_is)
    (case xz_NoSize => k_is)
    (case xl_BadDeed => k_is)
    (case xr_BadDeed => first | rfl | k_is)
    (case xs_BadDeed => k_is)
    (case xi_BadDeed => k_is)
    (case xt_BadDeed => k_is)
    (case xk_BadDeed => k_is)
    (case xe_BadDeed => kx_is)
    (case xu_BadDeed => ks_is)
    (case xv_BadDeed => k_is)
    (case xm_BadDeed => k_is)
    (case xp_BadDeed => k_is)
    (case xc_BadDeed => k_is)
    (case xd_BadDeed => k_is)
    (case xo_BadDeed => k_is)
    (case xq_BadDeed => first | rfl | k_is)
    (case xw_BadDeed => first | rfl | k_is)
    (case xz_BadDeed => k_is)
    (case xl_TooMany => k_is)
    (case xr_TooMany => first | rfl | k_is)
    (case xs_TooMany => k_is)
    (case xi_TooMany => k_is)
    (case xt_TooMany => k_is)
    (case xk_TooMany => k_is)
    (case xe_TooMany => kx_is)
    (case xu_TooMany => ks_is)
    (case xv_TooMany => k_is)
    (case xm_TooMany => k_is)
    (case xp_TooMany => k_is)
    (case xc_TooMany => k_is)
    (case xd_TooMany => k_is)
    (case xo_TooMany => k_is)
    (case xq_TooMany => first | rfl | k_is)
    (case xw_TooMany => first | rfl | k_is)
    (case xz_TooMany => k_is)
    (case xl_NoLevel => k_is)
    (case xr_NoLevel => first | rfl | k_is)
    (case xs_NoLevel => k_is)
    (case xi_NoLevel => k_is)
    (case xt_NoLevel => k_is)
    (case xk_NoLevel => k_is)
    (case xe_NoLevel => kx_is)
    (case xu_NoLevel => ks_is)
    (case xv_NoLevel => k_is)
    (case xm_NoLevel => k_is)
    (case xp_NoLevel => k_is)
    (case xc_NoLevel => k_is)
    (case xd_NoLevel => k_is)
    (case xo_NoLevel => k_is)
    (case xq_NoLevel => first | rfl | k_is)
    (case xw_NoLevel => first | rfl | k_is)
    (case xz_NoLevel => k_is)
    (case xl_NoHeights => k_is)
    (case xr_NoHeights => first | rfl | k_is)
    (case xs_NoHeights => k_is)
    (case xi_NoHeights => k_is)
    (case xt_NoHeights => k_is)
    (case xk_NoHeights => k_is)
    (case xe_NoHeights => kx_is)
    (case xu_NoHeights => ks_is)
    (case xv_NoHeights => k_is)
    (case xm_NoHeights => k_is)
    (case xp_NoHeights => k_is)
    (case xc_NoHeights => k_is)
    (case xd_NoHeights => k_is)
    (case xo_NoHeights => k_is)
    (case xq_NoHeights => first | rfl | k_is)
    (case xw_NoHeights => first | rfl | k_is)
    (case xz_NoHeights => k_is)
    (case qa_Room => k_is)
    (case qm_Room => k_is)
    (case qi_Room => k_is)
    (case qt_Room => k_is)
    (case qb_Room_bool => k_is)
    (case qb_Room_int => k_is)
    (case qb_Room_str => k_is)
    (case qb_Room_tuple => k_is)
    (case qb_Room_list => k_is)
    (case qb_Room_dict => k_is)
    (case qn => k_is)
    (case qk => k_is)
